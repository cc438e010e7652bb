import PyProof.Rows.All
import Wide.All
import OpenK.AllK
import Wide.FinOn
import PyProof.EqAt
import PyProof.EqKinds
import PyProof.TupleCall
import HandS.ForMost
import HandS.Exc
import HandS.TryOnly
import HandS.ExcOwn
import HandS.WordsExc
import HandS.Style
import HandS.IsInst
import HandS.StrMore
import HandS.Iter
import HandS.Text
import HandS.Comp
import HandS.WordsDict
import HandS.Small
import PyProof.Ascii
import PyProof.Rows.RegStrFacts
import HandS.ExcInit
import HandS.ExcIs
import HandS.ExcField
import HandS.ExcValue
import HandS.RaiseMore
import HandS.ClsMeth
import HandS.Ends
import PySem.Challenge.RW_tiehall_k16_refusals
set_option Elab.async false
set_option linter.all false
set_option maxRecDepth 100000
set_option maxHeartbeats 4000000
set_option autoImplicit false
/-! The data layer: what code does, told over plain data D and a store of cells, with no addresses in sight. -/
namespace Dl
open PySem L2

/-! ### data -/
inductive D where
  | non | bl (b : Bool) | int (i : Int) | str (s : Str) | ty (n : String) | ref (a : Addr)
  | tup (ds : List D) | lst (ds : List D) | klst (ds : List D)
  | dct (kvs : List (Key × D)) | dtt (kvs : List (List Key × D))
  | obj (C : Addr) (fs : List (Str × D))
  | exc (C : Addr) (fs : List (Str × D))
  | cell (i : Nat)
inductive Cell where
  | lst (ds : List D) | dct (kvs : List (Key × D)) | dtt (kvs : List (List Key × D)) | ins (C : Addr) (fs : List (Str × D))
abbrev Store := List Cell
abbrev Env := List (Option D)
/-- an exception that was caught, held as a value: its class, its dict -/
def ExT (C : Addr) (d : Option Addr) (a : Addr) : HO := .ext fun h => ∃ oe vs, h.get? a = some oe ∧ Zc (.ref C) d oe ∧ oe.data = .fields vs
def XdG (G : Hp) (d : Option Addr) (ks : List (Str × V)) : Prop := match d with
  | none => ks = []
  | some dd => G dd = some (.xd ks)

mutual
inductive Rep (K : PySem.W.Frag) (m : List Addr) (G : Hp) : V → D → Prop
  | non : Rep K m G .non .non
  | bl (b : Bool) : Rep K m G (.bl b) (.bl b)
  | int (i : Int) : Rep K m G (.int i) (.int i)
  | str (s : Str) : Rep K m G (.str s) (.str s)
  | ty (n : String) : Rep K m G (.ty n) (.ty n)
  | ref (a : Addr) : Rep K m G (.ref a) (.ref a)
  | tup {a : Addr} {vs : List V} {ds : List D} (h : SqT K G a vs) (r : Reps K m G vs ds) : Rep K m G (.ref a) (.tup ds)
  | lst {a : Addr} {vs : List V} {ds : List D} (h : G a = some (.lst vs)) (r : Reps K m G vs ds) : Rep K m G (.ref a) (.lst ds)
  | klst {a : Addr} {vs : List V} {ds : List D} (h : SqL K G a vs) (r : Reps K m G vs ds) : Rep K m G (.ref a) (.klst ds)
  | dct {a : Addr} {ks : List (Key × V)} {kvs : List (Key × D)} (h : Rd G a (.dK ks)) (e : ks.map (·.1) = kvs.map (·.1)) (r : Reps K m G (ks.map (·.2)) (kvs.map (·.2))) : Rep K m G (.ref a) (.dct kvs)
  | dtt {a : Addr} {ks : List (List Key × V)} {kvs : List (List Key × D)} (h : Rd G a (.dT ks)) (e : ks.map (·.1) = kvs.map (·.1)) (r : Reps K m G (ks.map (·.2)) (kvs.map (·.2))) : Rep K m G (.ref a) (.dtt kvs)
  | obj {a C dx : Addr} {ks : List (Str × V)} {fs : List (Str × D)} (h : G a = some (.ins C dx ks)) (e : ks.map (·.1) = fs.map (·.1)) (r : Reps K m G (ks.map (·.2)) (fs.map (·.2))) : Rep K m G (.ref a) (.obj C fs)
  | exc {a C : Addr} {d : Option Addr} {ks : List (Str × V)} {fs : List (Str × D)} (h : G a = some (ExT C d a)) (x : XdG G d ks) (e : ks.map (·.1) = fs.map (·.1)) (r : Reps K m G (ks.map (·.2)) (fs.map (·.2))) : Rep K m G (.ref a) (.exc C fs)
  | cell {a : Addr} {i : Nat} (h : m[i]? = some a) : Rep K m G (.ref a) (.cell i)
inductive Reps (K : PySem.W.Frag) (m : List Addr) (G : Hp) : List V → List D → Prop
  | nil : Reps K m G [] []
  | cons {v : V} {d : D} {vs : List V} {ds : List D} (h : Rep K m G v d) (t : Reps K m G vs ds) : Reps K m G (v :: vs) (d :: ds)
end

/-- what is never locked -/
def stayO : HO → Bool
  | .lst _ => true
  | .tup _ => true
  | .ins _ _ _ => true
  | .xd _ => true
  | .ext _ => true
  | _ => false
/-- what is frozen grows; cells come; what is no cell stays -/
structure Le (m : List Addr) (G H : Hp) (m' : List Addr) (G' H' : Hp) : Prop where
  pre : ∀ (i : Nat) (a : Addr), m[i]? = some a → m'[i]? = some a
  rd : ∀ a u, Rd G a u → Rd G' a u
  ins : ∀ a o, G a = some o → stayO o = true → G' a = some o
  fr : ∀ a o, H a = some o → a ∉ m → H' a = some o
  nw : ∀ a, a ∈ m' → a ∈ m ∨ H a = none
  gw : ∀ a o, G' a = some o → (∃ u, G a = some u) ∨ H a = none ∨ a ∈ m
section
variable {K : PySem.W.Frag} {m m' m1 m2 : List Addr} {G G' G1 G2 H H' H1 H2 : Hp} {v : V} {d : D} {vs : List V} {ds : List D}
theorem Le.refl (m : List Addr) (G H : Hp) : Le m G H m G H := ⟨fun _ _ h => h, fun _ _ h => h, fun _ _ h _ => h, fun _ _ h _ => h, fun _ h => .inl h, fun _ _ h => .inl ⟨_, h⟩⟩
theorem mem_of_pre {m m1 : List Addr} (p : ∀ (i : Nat) (a : Addr), m[i]? = some a → m1[i]? = some a) {a : Addr} (h : a ∈ m) : a ∈ m1 := by
  obtain ⟨i, hi⟩ := List.getElem?_of_mem h
  exact List.mem_of_getElem? (p i a hi)
theorem Le.trans (a : Le m G H m1 G1 H1) (b : Le m1 G1 H1 m2 G2 H2) : Le m G H m2 G2 H2 := by
  refine ⟨fun i x h => b.pre i x (a.pre i x h), fun x u h => b.rd x u (a.rd x u h), fun x o h st => b.ins x o (a.ins x o h st) st, fun x o h n => ?_, fun x h => ?_, fun x o h => ?_⟩
  · refine b.fr x o (a.fr x o h n) fun hm => ?_
    rcases a.nw x hm with z | z
    · exact n z
    · rw [h] at z; cases z
  · rcases b.nw x h with z | z
    · exact a.nw x z
    · by_cases hm : x ∈ m
      · exact .inl hm
      · right
        cases e : H x with
        | none => rfl
        | some o =>
          have q := a.fr x o e hm
          rw [q] at z; cases z
  · rcases b.gw x o h with ⟨u, z⟩ | z | z
    · exact a.gw x u z
    · by_cases hm : x ∈ m
      · exact .inr (.inr hm)
      · refine .inr (.inl ?_)
        cases e : H x with
        | none => rfl
        | some o =>
          have q := a.fr x o e hm
          rw [q] at z; cases z
    · exact .inr ((a.nw x z).symm)
theorem XdG.mono {d : Option Addr} {ks : List (Str × V)} (ins : ∀ a o, G a = some o → stayO o = true → G' a = some o) (h : XdG G d ks) : XdG G' d ks := by
  cases d with
  | none => exact h
  | some dd => exact ins _ _ h rfl
theorem sqT_mono {a : Addr} {xs : List V} (rd : ∀ a u, Rd G a u → Rd G' a u) (h : SqT K G a xs) : SqT K G' a xs := by
  rcases h with h | h
  · exact .inl (rd _ _ h)
  · exact .inr h
theorem sqL_mono {a : Addr} {xs : List V} (rd : ∀ a u, Rd G a u → Rd G' a u) (h : SqL K G a xs) : SqL K G' a xs := by
  rcases h with h | h
  · exact .inl (rd _ _ h)
  · exact .inr h
mutual
theorem Rep.mono' (pre : ∀ (i : Nat) (a : Addr), m[i]? = some a → m'[i]? = some a) (rd : ∀ a u, Rd G a u → Rd G' a u) (ins : ∀ a o, G a = some o → stayO o = true → G' a = some o) :
    ∀ {v : V} {d : D}, Rep K m G v d → Rep K m' G' v d
  | _, _, .non => .non
  | _, _, .bl b => .bl b
  | _, _, .int i => .int i
  | _, _, .str s => .str s
  | _, _, .ty n => .ty n
  | _, _, .ref a => .ref a
  | _, _, .tup h r => .tup (sqT_mono rd h) (Reps.mono' pre rd ins r)
  | _, _, .lst h r => .lst (ins _ _ h rfl) (Reps.mono' pre rd ins r)
  | _, _, .klst h r => .klst (sqL_mono rd h) (Reps.mono' pre rd ins r)
  | _, _, .dct h e r => .dct (rd _ _ h) e (Reps.mono' pre rd ins r)
  | _, _, .dtt h e r => .dtt (rd _ _ h) e (Reps.mono' pre rd ins r)
  | _, _, .obj h e r => .obj (ins _ _ h rfl) e (Reps.mono' pre rd ins r)
  | _, _, .exc h x e r => .exc (ins _ _ h rfl) (x.mono ins) e (Reps.mono' pre rd ins r)
  | _, _, .cell h => .cell (pre _ _ h)
theorem Reps.mono' (pre : ∀ (i : Nat) (a : Addr), m[i]? = some a → m'[i]? = some a) (rd : ∀ a u, Rd G a u → Rd G' a u) (ins : ∀ a o, G a = some o → stayO o = true → G' a = some o) :
    ∀ {vs : List V} {ds : List D}, Reps K m G vs ds → Reps K m' G' vs ds
  | _, _, .nil => .nil
  | _, _, .cons h t => .cons (Rep.mono' pre rd ins h) (Reps.mono' pre rd ins t)
end
theorem Rep.mono (l : Le m G H m' G' H') (r : Rep K m G v d) : Rep K m' G' v d := Rep.mono' l.pre l.rd l.ins r
theorem Reps.mono (l : Le m G H m' G' H') (r : Reps K m G vs ds) : Reps K m' G' vs ds := Reps.mono' l.pre l.rd l.ins r
theorem Reps.length : ∀ {vs : List V} {ds : List D}, Reps K m G vs ds → vs.length = ds.length
  | _, _, .nil => rfl
  | _, _, .cons _ t => congrArg (· + 1) (Reps.length t)
theorem Reps.append : ∀ {vs ws : List V} {ds es : List D}, Reps K m G vs ds → Reps K m G ws es → Reps K m G (vs ++ ws) (ds ++ es)
  | _, _, _, _, .nil, s => s
  | _, _, _, _, .cons h t, s => .cons h (Reps.append t s)
theorem Reps.get : ∀ {vs : List V} {ds : List D} {i : Nat} {d : D}, Reps K m G vs ds → ds[i]? = some d → ∃ v, vs[i]? = some v ∧ Rep K m G v d
  | _, _, _, _, .nil, e => by simp at e
  | _, _, 0, _, .cons h _, e => by simp at e; subst e; exact ⟨_, rfl, h⟩
  | _, _, i + 1, d, .cons _ t, e => by
    obtain ⟨v, h1, h2⟩ := Reps.get (i := i) (d := d) t (by simpa using e)
    exact ⟨v, by simpa using h1, h2⟩
theorem Reps.getV : ∀ {vs : List V} {ds : List D} {i : Nat} {v : V}, Reps K m G vs ds → vs[i]? = some v → ∃ d, ds[i]? = some d ∧ Rep K m G v d
  | _, _, _, _, .nil, e => by simp at e
  | _, _, 0, _, .cons h _, e => by simp at e; subst e; exact ⟨_, rfl, h⟩
  | _, _, i + 1, d, .cons _ t, e => by
    obtain ⟨v, h1, h2⟩ := Reps.getV (i := i) (v := d) t (by simpa using e)
    exact ⟨v, by simpa using h1, h2⟩
theorem Reps.take : ∀ {vs : List V} {ds : List D} (n : Nat), Reps K m G vs ds → Reps K m G (vs.take n) (ds.take n)
  | _, _, 0, _ => by simpa using Reps.nil
  | _, _, _ + 1, .nil => .nil
  | _, _, n + 1, .cons h t => .cons h (Reps.take n t)
theorem Reps.drop : ∀ {vs : List V} {ds : List D} (n : Nat), Reps K m G vs ds → Reps K m G (vs.drop n) (ds.drop n)
  | _, _, 0, r => by simpa using r
  | _, _, _ + 1, .nil => .nil
  | _, _, n + 1, .cons _ t => by simpa using Reps.drop n t
theorem Reps.dropLast {vs : List V} {ds : List D} (r : Reps K m G vs ds) : Reps K m G vs.dropLast ds.dropLast := by
  rw [List.dropLast_eq_take, List.dropLast_eq_take, r.length]
  exact r.take _
theorem Reps.reverse : ∀ {vs : List V} {ds : List D}, Reps K m G vs ds → Reps K m G vs.reverse ds.reverse
  | _, _, .nil => .nil
  | _, _, .cons h t => by
    rw [List.reverse_cons, List.reverse_cons]
    exact (Reps.reverse t).append (.cons h .nil)
theorem Reps.set {v : V} {d : D} (h : Rep K m G v d) : ∀ {vs : List V} {ds : List D} (i : Nat), Reps K m G vs ds → Reps K m G (vs.set i v) (ds.set i d)
  | _, _, _, .nil => .nil
  | _, _, 0, .cons _ t => .cons h t
  | _, _, i + 1, .cons q t => .cons q (Reps.set h i t)
theorem Reps.ints : ∀ {vs : List V} {ns : List Int}, Reps K m G vs (ns.map D.int) → vs = ns.map V.int
  | _, [], h => by cases h; rfl
  | _, n :: r, h => by
    cases h with
    | cons h t =>
      cases h
      rw [Reps.ints t]; rfl
theorem Reps.of_ints : ∀ (ns : List Int), Reps K m G (ns.map V.int) (ns.map D.int)
  | [] => .nil
  | n :: r => .cons (.int n) (Reps.of_ints r)
theorem Reps.strs : ∀ {vs : List V} {ns : List Str}, Reps K m G vs (ns.map D.str) → vs = ns.map V.str
  | _, [], h => by cases h; rfl
  | _, n :: r, h => by
    cases h with
    | cons h t =>
      cases h
      rw [Reps.strs t]; rfl
theorem Reps.of_strs : ∀ (ns : List Str), Reps K m G (ns.map V.str) (ns.map D.str)
  | [] => .nil
  | n :: r => .cons (.str n) (Reps.of_strs r)
theorem Reps.bls : ∀ {vs : List V} {ns : List Bool}, Reps K m G vs (ns.map D.bl) → vs = ns.map V.bl
  | _, [], h => by cases h; rfl
  | _, n :: r, h => by
    cases h with
    | cons h t =>
      cases h
      rw [Reps.bls t]; rfl
theorem Reps.of_bls : ∀ (ns : List Bool), Reps K m G (ns.map V.bl) (ns.map D.bl)
  | [] => .nil
  | n :: r => .cons (.bl n) (Reps.of_bls r)
end

/-! ### cells -/
def CellAt (K : PySem.W.Frag) (m : List Addr) (G H : Hp) (a : Addr) : Cell → Prop
  | .lst ds => ∃ vs, H a = some (.lst vs) ∧ Reps K m G vs ds
  | .dct kvs => ∃ ks : List (Key × V), H a = some (.dK ks) ∧ ks.map (·.1) = kvs.map (·.1) ∧ Reps K m G (ks.map (·.2)) (kvs.map (·.2))
  | .dtt kvs => ∃ ks : List (List Key × V), H a = some (.dT ks) ∧ ks.map (·.1) = kvs.map (·.1) ∧ Reps K m G (ks.map (·.2)) (kvs.map (·.2))
  | .ins C fs => ∃ (dx : Addr) (ks : List (Str × V)), H a = some (.ins C dx ks) ∧ ks.map (·.1) = fs.map (·.1) ∧ Reps K m G (ks.map (·.2)) (fs.map (·.2))
structure Sim (K : PySem.W.Frag) (m : List Addr) (G H : Hp) (S : Store) : Prop where
  ex : ∀ a o, G a = some o → H a = some o
  len : m.length = S.length
  nd : m.Nodup
  gn : ∀ a, a ∈ m → G a = none
  at_ : ∀ (i : Nat) (a : Addr) (c : Cell), m[i]? = some a → S[i]? = some c → CellAt K m G H a c
section
variable {K : PySem.W.Frag} {m m' : List Addr} {G G' H H' : Hp} {S S' : Store} {a p : Addr} {o : HO} {c : Cell}
theorem CellAt.some_ (h : CellAt K m G H a c) : ∃ o, H a = some o := by
  cases c with
  | lst ds => obtain ⟨_, e, _⟩ := h; exact ⟨_, e⟩
  | dct ds => obtain ⟨_, e, _⟩ := h; exact ⟨_, e⟩
  | dtt ds => obtain ⟨_, e, _⟩ := h; exact ⟨_, e⟩
  | ins C ds => obtain ⟨_, _, e, _⟩ := h; exact ⟨_, e⟩
theorem CellAt.mono (pre : ∀ (i : Nat) (a : Addr), m[i]? = some a → m'[i]? = some a) (rd : ∀ a u, Rd G a u → Rd G' a u) (ins : ∀ a o, G a = some o → stayO o = true → G' a = some o)
    (e : H' a = H a) (h : CellAt K m G H a c) : CellAt K m' G' H' a c := by
  cases c with
  | lst ds => obtain ⟨vs, q, r⟩ := h; exact ⟨vs, e.trans q, Reps.mono' pre rd ins r⟩
  | dct ds => obtain ⟨vs, q, k, r⟩ := h; exact ⟨vs, e.trans q, k, Reps.mono' pre rd ins r⟩
  | dtt ds => obtain ⟨vs, q, k, r⟩ := h; exact ⟨vs, e.trans q, k, Reps.mono' pre rd ins r⟩
  | ins C ds => obtain ⟨dx, vs, q, k, r⟩ := h; exact ⟨dx, vs, e.trans q, k, Reps.mono' pre rd ins r⟩
theorem Sim.cellSome (s : Sim K m G H S) (h : a ∈ m) : ∃ o, H a = some o := by
  obtain ⟨i, hi⟩ := List.getElem?_of_mem h
  have hl : i < S.length := by rw [← s.len]; exact (List.getElem?_eq_some_iff.mp hi).1
  exact (s.at_ i a S[i] hi (by simp [hl])).some_
theorem Sim.notcell (s : Sim K m G H S) (h : H a = none) : a ∉ m := fun hm => by
  obtain ⟨o, e⟩ := s.cellSome hm
  rw [h] at e; cases e
theorem rd_upd (hp : G p = none) : ∀ a u, Rd G a u → Rd (upd G p o) a u := fun a u h => by
  rcases h with h | ⟨ob, h⟩
  · exact .inl (by rw [upd_ne (ne_of_none h hp)]; exact h)
  · exact .inr ⟨ob, by rw [upd_ne (ne_of_none h hp)]; exact h⟩
theorem ins_upd (hp : G p = none) : ∀ a u, G a = some u → stayO u = true → upd G p o a = some u := fun a u h _ => by
  rw [upd_ne (ne_of_none h hp)]; exact h
theorem Sim.gfree (s : Sim K m G H S) (h : H p = none) : G p = none := by
  cases e : G p with
  | none => rfl
  | some o => have := s.ex p o e; rw [h] at this; cases this
/-- a new frozen object -/
theorem Sim.alloc (s : Sim K m G H S) (hp : H p = none) (o : HO) : Sim K m (upd G p o) (upd H p o) S ∧ Le m G H m (upd G p o) (upd H p o) := by
  have hg := s.gfree hp
  have hm := s.notcell hp
  refine ⟨⟨fun a u h => ?_, s.len, s.nd, fun a h => ?_, fun i a c h1 h2 => ?_⟩, ⟨fun _ _ h => h, rd_upd hg, ins_upd hg, fun a u h _ => ?_, fun _ h => .inl h, fun a u h => ?_⟩⟩
  · by_cases e : a = p
    · subst e; rw [upd_same] at h ⊢; exact h
    · rw [upd_ne e] at h ⊢; exact s.ex a u h
  · have e : a ≠ p := fun e => hm (e ▸ h)
    rw [upd_ne e]; exact s.gn a h
  · have e : a ≠ p := fun e => hm (e ▸ List.mem_of_getElem? h1)
    exact (s.at_ i a c h1 h2).mono (fun _ _ h => h) (rd_upd hg) (ins_upd hg) (upd_ne e)
  · rw [upd_ne (ne_of_none h hp)]; exact h
  · by_cases e : a = p
    · subst e; exact .inr (.inl hp)
    · rw [upd_ne e] at h; exact .inl ⟨_, h⟩
/-- nothing tracked anew: a heap that is more -/
theorem Sim.more (s : Sim K m G H S) (hp : H p = none) (o : HO) : Sim K m G (upd H p o) S ∧ Le m G H m G (upd H p o) := by
  have hg := s.gfree hp
  have hm := s.notcell hp
  refine ⟨⟨fun a u h => ?_, s.len, s.nd, s.gn, fun i a c h1 h2 => ?_⟩, ⟨fun _ _ h => h, fun _ _ h => h, fun _ _ h _ => h, fun a u h _ => ?_, fun _ h => .inl h, fun _ _ h => .inl ⟨_, h⟩⟩⟩
  · rw [upd_ne (ne_of_none h hg)]; exact s.ex a u h
  · have e : a ≠ p := fun e => hm (e ▸ List.mem_of_getElem? h1)
    exact (s.at_ i a c h1 h2).mono (fun _ _ h => h) (fun _ _ h => h) (fun _ _ h _ => h) (upd_ne e)
  · rw [upd_ne (ne_of_none h hp)]; exact h
/-- an object of ours that is no cell and not frozen is frozen now; it was new at an older state -/
theorem Sim.freeze {m0 : List Addr} {G0 H0 : Hp} (s : Sim K m G H S) (l : Le m0 G0 H0 m G H) (h0 : H0 p = none) (hp : H p = some o) (hg : G p = none) (hm : p ∉ m) : Sim K m (upd G p o) H S ∧ Le m0 G0 H0 m (upd G p o) H := by
  refine ⟨⟨fun a u h => ?_, s.len, s.nd, fun a h => ?_, fun i a c h1 h2 => ?_⟩, ⟨l.pre, fun a u h => rd_upd hg a u (l.rd a u h), fun a u h st => ins_upd hg a u (l.ins a u h st) st, l.fr, l.nw, fun a u h => ?_⟩⟩
  · by_cases e : a = p
    · subst e; rw [upd_same] at h; rw [hp]; exact h
    · rw [upd_ne e] at h; exact s.ex a u h
  · have e : a ≠ p := fun e => hm (e ▸ h)
    rw [upd_ne e]; exact s.gn a h
  · exact (s.at_ i a c h1 h2).mono (fun _ _ h => h) (rd_upd hg) (ins_upd hg) rfl
  · by_cases e : a = p
    · subst e; exact .inr (.inl h0)
    · rw [upd_ne e] at h; exact l.gw a u h
/-- such an object is written -/
theorem Sim.side {m0 : List Addr} {G0 H0 : Hp} (s : Sim K m G H S) (l : Le m0 G0 H0 m G H) (h0 : H0 p = none) (hg : G p = none) (hm : p ∉ m) : Sim K m G (upd H p o) S ∧ Le m0 G0 H0 m G (upd H p o) := by
  refine ⟨⟨fun a u h => ?_, s.len, s.nd, s.gn, fun i a c h1 h2 => ?_⟩, ⟨l.pre, l.rd, l.ins, fun a u h n => ?_, l.nw, l.gw⟩⟩
  · rw [upd_ne (ne_of_none h hg)]; exact s.ex a u h
  · have e : a ≠ p := fun e => hm (e ▸ List.mem_of_getElem? h1)
    exact (s.at_ i a c h1 h2).mono (fun _ _ h => h) (fun _ _ h => h) (fun _ _ h _ => h) (upd_ne e)
  · rw [upd_ne (ne_of_none h h0)]; exact l.fr a u h n
/-- such an object stays as it is -/
theorem Le.hidden {p : Addr} {o : HO} (l : Le m G H m' G' H') (hp : H p = some o) (hg : G p = none) (hm : p ∉ m) : H' p = some o ∧ G' p = none ∧ p ∉ m' := by
  refine ⟨l.fr p o hp hm, ?_, fun h => ?_⟩
  · cases e : G' p with
    | none => rfl
    | some u =>
      rcases l.gw p u e with ⟨w, z⟩ | z | z
      · rw [hg] at z; cases z
      · rw [hp] at z; cases z
      · exact absurd z hm
  · rcases l.nw p h with z | z
    · exact hm z
    · rw [hp] at z; cases z
theorem pre_snoc (m : List Addr) (p : Addr) : ∀ (i : Nat) (a : Addr), m[i]? = some a → (m ++ [p])[i]? = some a := fun i a h => by
  rw [List.getElem?_append_left (List.getElem?_eq_some_iff.mp h).1]; exact h
theorem get_snoc {α : Type} (m : List α) (p : α) : (m ++ [p])[m.length]? = some p := by simp
theorem snoc_cases {α : Type} {m : List α} {p x : α} {i : Nat} (h : (m ++ [p])[i]? = some x) : (i < m.length ∧ m[i]? = some x) ∨ (i = m.length ∧ p = x) := by
  by_cases hl : i < m.length
  · rw [List.getElem?_append_left hl] at h; exact .inl ⟨hl, h⟩
  · have hi := (List.getElem?_eq_some_iff.mp h).1
    rw [List.length_append, List.length_singleton] at hi
    have e : i = m.length := by omega
    subst e
    rw [get_snoc] at h
    exact .inr ⟨rfl, Option.some.inj h⟩
/-- a new cell -/
theorem Sim.newCell (s : Sim K m G H S) (hp : H p = none) (hc : CellAt K (m ++ [p]) G (upd H p o) p c) : Sim K (m ++ [p]) G (upd H p o) (S ++ [c]) ∧ Le m G H (m ++ [p]) G (upd H p o) := by
  have hg := s.gfree hp
  have hm := s.notcell hp
  refine ⟨⟨fun a u h => ?_, by rw [List.length_append, List.length_append, s.len]; rfl, ?_, fun a h => ?_, fun i a c' h1 h2 => ?_⟩, ⟨pre_snoc m p, fun _ _ h => h, fun _ _ h _ => h, fun a u h _ => ?_, fun a h => ?_, fun _ _ h => .inl ⟨_, h⟩⟩⟩
  · rw [upd_ne (ne_of_none h hg)]; exact s.ex a u h
  · rw [List.nodup_append]
    refine ⟨s.nd, by simp, fun x hx y hy => ?_⟩
    have : y = p := by simpa using hy
    subst this
    exact fun e => hm (e ▸ hx)
  · rcases List.mem_append.mp h with h | h
    · exact s.gn a h
    · have : a = p := by simpa using h
      subst this; exact hg
  · rcases snoc_cases h1 with ⟨hl, h1⟩ | ⟨hl, e⟩
    · have e : a ≠ p := fun e => hm (e ▸ List.mem_of_getElem? h1)
      rw [List.getElem?_append_left (by rw [← s.len]; exact hl)] at h2
      exact (s.at_ i a c' h1 h2).mono (pre_snoc m p) (fun _ _ h => h) (fun _ _ h _ => h) (upd_ne e)
    · subst e
      rw [hl, s.len, get_snoc] at h2
      cases h2
      exact hc
  · rw [upd_ne (ne_of_none h hp)]; exact h
  · rcases List.mem_append.mp h with h | h
    · exact .inl h
    · have : a = p := by simpa using h
      subst this; exact .inr hp
/-- a cell is written -/
theorem Sim.write {i : Nat} (s : Sim K m G H S) (hi : m[i]? = some a) (hc : CellAt K m G (upd H a o) a c) : Sim K m G (upd H a o) (S.set i c) ∧ Le m G H m G (upd H a o) := by
  have hm : a ∈ m := List.mem_of_getElem? hi
  have hg := s.gn a hm
  have hl : i < S.length := by rw [← s.len]; exact (List.getElem?_eq_some_iff.mp hi).1
  refine ⟨⟨fun b u h => ?_, by rw [List.length_set]; exact s.len, s.nd, s.gn, fun j b c' h1 h2 => ?_⟩, ⟨fun _ _ h => h, fun _ _ h => h, fun _ _ h _ => h, fun b u h n => ?_, fun _ h => .inl h, fun _ _ h => .inl ⟨_, h⟩⟩⟩
  · rw [upd_ne (ne_of_none h hg)]; exact s.ex b u h
  · by_cases e : j = i
    · subst e
      rw [hi] at h1; cases h1
      rw [List.getElem?_set_self hl] at h2
      cases h2
      exact hc
    · have eb : b ≠ a := fun z => by
        subst z
        obtain ⟨l1, e1⟩ := List.getElem?_eq_some_iff.mp h1
        obtain ⟨l2, e2⟩ := List.getElem?_eq_some_iff.mp hi
        exact e ((List.getElem_inj s.nd).mp (e1.trans e2.symm))
      rw [List.getElem?_set_ne (Ne.symm e)] at h2
      exact (s.at_ j b c' h1 h2).mono (fun _ _ h => h) (fun _ _ h => h) (fun _ _ h _ => h) (upd_ne eb)
  · have e : b ≠ a := fun e => n (e ▸ hm)
    rw [upd_ne e]; exact h
theorem Sim.cellAt {i : Nat} (s : Sim K m G H S) (h2 : S[i]? = some c) : ∃ a, m[i]? = some a ∧ CellAt K m G H a c := by
  have hl : i < m.length := by rw [s.len]; exact (List.getElem?_eq_some_iff.mp h2).1
  exact ⟨m[i], by simp [hl], s.at_ i _ c (by simp [hl]) h2⟩
end

/-! ### names' values -/
def RepSt (K : PySem.W.Frag) (m : List Addr) (G : Hp) (σ : L2.St) (ρ : Env) : Prop := σ.length = ρ.length ∧ ∀ (i : Nat) (d : D), ρ[i]? = some (some d) → ∃ v, σ[i]? = some (some v) ∧ Rep K m G v d
section
variable {K : PySem.W.Frag} {m m' : List Addr} {G G' H H' : Hp} {σ : L2.St} {ρ : Env} {v : V} {d : D}
theorem RepSt.mono (r : RepSt K m G σ ρ) (l : Le m G H m' G' H') : RepSt K m' G' σ ρ := ⟨r.1, fun i d h => let ⟨v, e, q⟩ := r.2 i d h; ⟨v, e, q.mono l⟩⟩
theorem RepSt.set (r : RepSt K m G σ ρ) (i : Nat) (h : Rep K m G v d) : RepSt K m G (σ.set i (some v)) (ρ.set i (some d)) := by
  refine ⟨by rw [List.length_set, List.length_set]; exact r.1, fun j e hj => ?_⟩
  by_cases q : i = j
  · subst q
    have hl : i < ρ.length := by have := (List.getElem?_eq_some_iff.mp hj).1; simpa using this
    rw [List.getElem?_set_self hl] at hj
    cases hj
    exact ⟨v, List.getElem?_set_self (by rw [r.1]; exact hl), h⟩
  · rw [List.getElem?_set_ne q] at hj
    obtain ⟨w, e1, e2⟩ := r.2 j e hj
    exact ⟨w, by rw [List.getElem?_set_ne q]; exact e1, e2⟩
theorem RepSt.unset (r : RepSt K m G σ ρ) (i : Nat) : RepSt K m G (σ.set i none) (ρ.set i none) := by
  refine ⟨by rw [List.length_set, List.length_set]; exact r.1, fun j e hj => ?_⟩
  by_cases q : i = j
  · subst q
    have hl : i < ρ.length := by have := (List.getElem?_eq_some_iff.mp hj).1; simpa using this
    rw [List.getElem?_set_self hl] at hj
    cases hj
  · rw [List.getElem?_set_ne q] at hj
    obtain ⟨w, e1, e2⟩ := r.2 j e hj
    exact ⟨w, by rw [List.getElem?_set_ne q]; exact e1, e2⟩
def wipeD (ρ : Env) : List Nat → Env
  | [] => ρ
  | v :: vs => (wipeD ρ vs).set v none
theorem RepSt.wipe (r : RepSt K m G σ ρ) : ∀ vs : List Nat, RepSt K m G (wipe σ vs) (wipeD ρ vs)
  | [] => r
  | v :: vs => (RepSt.wipe r vs).unset v
end

/-! ### what is wanted behind -/
def EvR (K : PySem.W.Frag) (m : List Addr) (G H : Hp) (Q : D → Store → Prop) : VK := fun v H' => ∃ d S' m' G', Q d S' ∧ Le m G H m' G' H' ∧ Sim K m' G' H' S' ∧ Rep K m' G' v d
def EvT (K : PySem.W.Frag) (m : List Addr) (G H : Hp) (Q : Bool → Store → Prop) : Bool → Hp → Prop := fun b H' => ∃ S' m' G', Q b S' ∧ Le m G H m' G' H' ∧ Sim K m' G' H' S'
def EvA (K : PySem.W.Frag) (m : List Addr) (G H : Hp) (Q : List D → Store → Prop) : List V → Hp → Prop := fun vs H' => ∃ ds S' m' G', Q ds S' ∧ Le m G H m' G' H' ∧ Sim K m' G' H' S' ∧ Reps K m' G' vs ds
def EvS (K : PySem.W.Frag) (m : List Addr) (G H : Hp) (Q : Env → Store → Prop) : L2.St → Hp → Prop := fun σ' H' => ∃ ρ' S' m' G', Q ρ' S' ∧ Le m G H m' G' H' ∧ Sim K m' G' H' S' ∧ RepSt K m' G' σ' ρ'
structure Post where
  nx : Env → Store → Prop
  rt : D → Store → Prop
  bk : Env → Store → Prop := fun _ _ => False
  ct : Env → Store → Prop := fun _ _ => False
def liftP (K : PySem.W.Frag) (m : List Addr) (G H : Hp) (P : Post) : Ends := { nx := EvS K m G H P.nx, rt := EvR K m G H P.rt, bk := EvS K m G H P.bk, ct := EvS K m G H P.ct }
section
variable {K : PySem.W.Frag} {m m1 : List Addr} {G G1 H H1 H' : Hp}
theorem EvR.back {Q : D → Store → Prop} {v : V} (l : Le m G H m1 G1 H1) (h : EvR K m1 G1 H1 Q v H') : EvR K m G H Q v H' := by
  obtain ⟨d, S', m', G', q, l', s, r⟩ := h
  exact ⟨d, S', m', G', q, l.trans l', s, r⟩
theorem EvT.back {Q : Bool → Store → Prop} {b : Bool} (l : Le m G H m1 G1 H1) (h : EvT K m1 G1 H1 Q b H') : EvT K m G H Q b H' := by
  obtain ⟨S', m', G', q, l', s⟩ := h
  exact ⟨S', m', G', q, l.trans l', s⟩
theorem EvA.back {Q : List D → Store → Prop} {vs : List V} (l : Le m G H m1 G1 H1) (h : EvA K m1 G1 H1 Q vs H') : EvA K m G H Q vs H' := by
  obtain ⟨d, S', m', G', q, l', s, r⟩ := h
  exact ⟨d, S', m', G', q, l.trans l', s, r⟩
theorem EvS.back {Q : Env → Store → Prop} {σ : L2.St} (l : Le m G H m1 G1 H1) (h : EvS K m1 G1 H1 Q σ H') : EvS K m G H Q σ H' := by
  obtain ⟨d, S', m', G', q, l', s, r⟩ := h
  exact ⟨d, S', m', G', q, l.trans l', s, r⟩
theorem EvR.imp {Q Q' : D → Store → Prop} {v : V} (h : EvR K m G H Q v H') (i : ∀ d S, Q d S → Q' d S) : EvR K m G H Q' v H' := by
  obtain ⟨d, S', m', G', q, l', s, r⟩ := h
  exact ⟨d, S', m', G', i _ _ q, l', s, r⟩
end

/-! ### what may be raised -/
abbrev XD := Addr → List (Str × D) → Env → Store → Prop
def bot : XD := fun _ _ _ _ => False
/-- an exception's fields -/
def XdAt (K : PySem.W.Frag) (m : List Addr) (G : Hp) (d : Option Addr) (fs : List (Str × D)) : Prop := ∃ ks, XdG G d ks ∧ ks.map (·.1) = fs.map (·.1) ∧ Reps K m G (ks.map (·.2)) (fs.map (·.2))
theorem XdAt.mono {K : PySem.W.Frag} {m m' : List Addr} {G G' H H' : Hp} {d : Option Addr} {fs : List (Str × D)} (l : Le m G H m' G' H') (h : XdAt K m G d fs) : XdAt K m' G' d fs :=
  let ⟨ks, x, e, r⟩ := h
  ⟨ks, x.mono l.ins, e, r.mono l⟩
def EvW (K : PySem.W.Frag) (m : List Addr) (G H : Hp) (ξ : XD) : WX := fun cls d σ H' => ∃ C fs ρ' S' m' G', cls = .ref C ∧ ξ C fs ρ' S' ∧ Le m G H m' G' H' ∧ Sim K m' G' H' S' ∧ RepSt K m' G' σ ρ' ∧ XdAt K m' G' d fs
theorem EvW.back {K : PySem.W.Frag} {m m1 : List Addr} {G G1 H H1 H' : Hp} {ξ : XD} {cls : Value} {d : Option Addr} {σ : L2.St} (l : Le m G H m1 G1 H1) (h : EvW K m1 G1 H1 ξ cls d σ H') : EvW K m G H ξ cls d σ H' := by
  obtain ⟨C, fs, ρ', S', m', G', e, q, l', s, r, x⟩ := h
  exact ⟨C, fs, ρ', S', m', G', e, q, l.trans l', s, r, x⟩
/-- a store, and what the context takes from here on -/
structure SimX (X : Cx) (ξ : XD) (m : List Addr) (G H : Hp) (S : Store) : Prop extends Sim X.K m G H S where
  xo : Takes X (EvW X.K m G H ξ)
theorem SimX.to {X : Cx} {ξ : XD} {m m' : List Addr} {G G' H H' : Hp} {S S' : Store} (s : SimX X ξ m G H S) (l : Le m G H m' G' H') (s' : Sim X.K m' G' H' S') : SimX X ξ m' G' H' S' := ⟨s', s.xo.imp fun _ _ _ _ => EvW.back l⟩
theorem Sim.bot {X : Cx} {m : List Addr} {G H : Hp} {S : Store} (s : Sim X.K m G H S) : SimX X bot m G H S := ⟨s, fun u s' ⟨_, _, _, _, _, _, _, _, _, _, _, _, _, _, _, _, ⟨_, _, _, _, _, _, _, z, _⟩⟩ => z.elim⟩
instance {X : Cx} {ξ : XD} {m : List Addr} {G H : Hp} {S : Store} : CoeOut (SimX X ξ m G H S) (Sim X.K m G H S) := ⟨fun h => h.toSim⟩

/-! ### the readings that say just what is asked -/
section
variable {X : Cx} {ξ : XD}
def tUE (X : Cx) (e : Expr) : TE := fun σ H Q => ∀ pins s, Inv X pins σ H s → wpAny (model X.prog X.w) X.A (eval e X.env) (EP X pins σ Q) X.xe s
def tUT (X : Cx) (e : Expr) : TT := fun σ H Q => ∀ pins s, Inv X pins σ H s → wpAny (model X.prog X.w) X.A (isTrue e X.env (eval e X.env)) (TP X pins σ Q) X.xe s
def tUW (X : Cx) (e : Expr) : TT := fun σ H Q => ∀ whole pins s, Inv X pins σ H s → wpAny (model X.prog X.w) X.A (isTrue e X.env whole) (TP X pins σ Q) X.xe s
def tUA (X : Cx) (es : List Expr) : TA := fun σ H Q => ∀ pos pins s, Inv X pins σ H s → wpAny (model X.prog X.w) X.A (spliced (backTo pos (starEach es X.env))) (AP X pins σ Q) X.xe s
def tUS (X : Cx) (st : Stmt) : TS := fun D σ H => ∀ pins s, Inv X pins σ H s → wpAny (model X.prog X.w) X.A (exec st X.env) (SP X pins D) X.xe s
def tUB (X : Cx) (sts : List Stmt) : TS := fun D σ H => ∀ pins s, Inv X pins σ H s → wpAny (model X.prog X.w) X.A (execs sts X.env) (SP X pins D) X.xe s
def tUG (X : Cx) (target : Expr) : TG := fun v σ H Q => ∀ pins s u, Inv X pins σ H s → RelV v u → wpAny (model X.prog X.w) X.A (assign target X.env u) (fun _ s' => ∃ σ' H', Inv X pins σ' H' s' ∧ Q σ' H') X.xe s
theorem uE (e : Expr) : PE X e (tUE X e) := ⟨fun pins s _ _ _ I h => h pins s I⟩
theorem uT (e : Expr) : PT X e (tUT X e) := ⟨fun pins s _ _ _ I h => h pins s I⟩
theorem uW (e : Expr) : PW X e (tUW X e) := ⟨fun w pins s _ _ _ I h => h w pins s I⟩
theorem uA (es : List Expr) : PA X es (tUA X es) := ⟨fun pos pins s _ _ _ I h => h pos pins s I⟩
theorem uS (st : Stmt) : PS X st (tUS X st) := ⟨fun pins s _ _ _ I h => h pins s I⟩
theorem uB (sts : List Stmt) : PSs X sts (tUB X sts) := ⟨fun pins s _ _ _ I h => h pins s I⟩
theorem uG (t : Expr) : PG X t (tUG X t) := ⟨fun pins s _ _ _ u _ I r h => h pins s u I r⟩
variable {e : Expr} {es : List Expr} {σ : L2.St} {H : Hp}
theorem tUE.mono {Q Q' : VK} (h : tUE X e σ H Q) (i : ∀ v H', Q v H' → Q' v H') : tUE X e σ H Q' := fun pins s I => thn (h pins s I) fun _ _ ⟨v, H', J, r, q⟩ => ⟨v, H', J, r, i v H' q⟩
theorem tUT.mono {Q Q' : Bool → Hp → Prop} (h : tUT X e σ H Q) (i : ∀ v H', Q v H' → Q' v H') : tUT X e σ H Q' := fun pins s I => thn (h pins s I) fun _ _ ⟨H', J, q⟩ => ⟨H', J, i _ H' q⟩
theorem tUW.mono {Q Q' : Bool → Hp → Prop} (h : tUW X e σ H Q) (i : ∀ v H', Q v H' → Q' v H') : tUW X e σ H Q' := fun w pins s I => thn (h w pins s I) fun _ _ ⟨H', J, q⟩ => ⟨H', J, i _ H' q⟩
theorem tUA.mono {Q Q' : List V → Hp → Prop} (h : tUA X es σ H Q) (i : ∀ v H', Q v H' → Q' v H') : tUA X es σ H Q' := fun pos pins s I => thn (h pos pins s I) fun _ _ ⟨v, H', J, r, q⟩ => ⟨v, H', J, r, i v H' q⟩
structure EndsLe (D D' : Ends) : Prop where
  nx : ∀ σ H, D.nx σ H → D'.nx σ H
  rt : ∀ v H, D.rt v H → D'.rt v H
  bk : ∀ σ H, D.bk σ H → D'.bk σ H
  ct : ∀ σ H, D.ct σ H → D'.ct σ H
theorem SP.mono {pins : List (Addr × Obj)} {D D' : Ends} {f : Flow} {s : Shared} (i : EndsLe D D') (h : SP X pins D f s) : SP X pins D' f s := by
  cases f with
  | next => obtain ⟨σ', H', I, q⟩ := h; exact ⟨σ', H', I, i.nx _ _ q⟩
  | brk => obtain ⟨σ', H', I, q⟩ := h; exact ⟨σ', H', I, i.bk _ _ q⟩
  | cont => obtain ⟨σ', H', I, q⟩ := h; exact ⟨σ', H', I, i.ct _ _ q⟩
  | ret u => obtain ⟨v, σ', H', I, r, q⟩ := h; exact ⟨v, σ', H', I, r, i.rt _ _ q⟩
theorem tUS.mono {st : Stmt} {D D' : Ends} (h : tUS X st D σ H) (i : EndsLe D D') : tUS X st D' σ H := fun pins s I => thn (h pins s I) fun _ _ q => SP.mono i q
theorem tUB.mono {st : List Stmt} {D D' : Ends} (h : tUB X st D σ H) (i : EndsLe D D') : tUB X st D' σ H := fun pins s I => thn (h pins s I) fun _ _ q => SP.mono i q
theorem tUG.mono {t : Expr} {v : V} {Q Q' : L2.St → Hp → Prop} (h : tUG X t v σ H Q) (i : ∀ σ H, Q σ H → Q' σ H) : tUG X t v σ H Q' := fun pins s u I r => thn (h pins s u I r) fun _ _ ⟨σ', H', J, q⟩ => ⟨σ', H', J, i _ _ q⟩

/-! ### the judgements over data -/
structure WpE (X : Cx) (ξ : XD) (e : Expr) (ρ : Env) (S : Store) (Q : D → Store → Prop) : Prop where run : ∀ σ H m G, SimX X ξ m G H S → RepSt X.K m G σ ρ → tUE X e σ H (EvR X.K m G H Q)
structure WpT (X : Cx) (ξ : XD) (e : Expr) (ρ : Env) (S : Store) (Q : Bool → Store → Prop) : Prop where run : ∀ σ H m G, SimX X ξ m G H S → RepSt X.K m G σ ρ → tUT X e σ H (EvT X.K m G H Q)
structure WpW (X : Cx) (ξ : XD) (e : Expr) (ρ : Env) (S : Store) (Q : Bool → Store → Prop) : Prop where run : ∀ σ H m G, SimX X ξ m G H S → RepSt X.K m G σ ρ → tUW X e σ H (EvT X.K m G H Q)
structure WpA (X : Cx) (ξ : XD) (es : List Expr) (ρ : Env) (S : Store) (Q : List D → Store → Prop) : Prop where run : ∀ σ H m G, SimX X ξ m G H S → RepSt X.K m G σ ρ → tUA X es σ H (EvA X.K m G H Q)
structure WpS (X : Cx) (ξ : XD) (st : Stmt) (ρ : Env) (S : Store) (P : Post) : Prop where run : ∀ σ H m G, SimX X ξ m G H S → RepSt X.K m G σ ρ → tUS X st (liftP X.K m G H P) σ H
structure WpB (X : Cx) (ξ : XD) (sts : List Stmt) (ρ : Env) (S : Store) (P : Post) : Prop where run : ∀ σ H m G, SimX X ξ m G H S → RepSt X.K m G σ ρ → tUB X sts (liftP X.K m G H P) σ H
structure WpG (X : Cx) (ξ : XD) (t : Expr) (d : D) (ρ : Env) (S : Store) (Q : Env → Store → Prop) : Prop where run : ∀ v σ H m G, SimX X ξ m G H S → RepSt X.K m G σ ρ → Rep X.K m G v d → tUG X t v σ H (EvS X.K m G H Q)
theorem liftP.le {K : PySem.W.Frag} {m m1 : List Addr} {G G1 H H1 : Hp} {P P' : Post} (l : Le m G H m1 G1 H1) (nx : ∀ ρ S, P.nx ρ S → P'.nx ρ S) (rt : ∀ d S, P.rt d S → P'.rt d S) (bk : ∀ ρ S, P.bk ρ S → P'.bk ρ S) (ct : ∀ ρ S, P.ct ρ S → P'.ct ρ S) :
    EndsLe (liftP K m1 G1 H1 P) (liftP K m G H P') where
  nx := fun _ _ ⟨ρ, S, m', G', q, l', r⟩ => ⟨ρ, S, m', G', nx _ _ q, l.trans l', r⟩
  rt := fun _ _ ⟨ρ, S, m', G', q, l', r⟩ => ⟨ρ, S, m', G', rt _ _ q, l.trans l', r⟩
  bk := fun _ _ ⟨ρ, S, m', G', q, l', r⟩ => ⟨ρ, S, m', G', bk _ _ q, l.trans l', r⟩
  ct := fun _ _ ⟨ρ, S, m', G', q, l', r⟩ => ⟨ρ, S, m', G', ct _ _ q, l.trans l', r⟩
/-- from a rule of the hand layer -/
theorem WpE.of {t : TE} {ρ : Env} {S : Store} {Q : D → Store → Prop} (p : PE X e t) (h : ∀ σ H m G, SimX X ξ m G H S → RepSt X.K m G σ ρ → t σ H (EvR X.K m G H Q)) : WpE X ξ e ρ S Q :=
  ⟨fun σ H m G s r pins sh I => p.run pins sh σ H _ I (h σ H m G s r)⟩
theorem WpT.of {t : TT} {ρ : Env} {S : Store} {Q : Bool → Store → Prop} (p : PT X e t) (h : ∀ σ H m G, SimX X ξ m G H S → RepSt X.K m G σ ρ → t σ H (EvT X.K m G H Q)) : WpT X ξ e ρ S Q :=
  ⟨fun σ H m G s r pins sh I => p.run pins sh σ H _ I (h σ H m G s r)⟩
theorem WpW.of {t : TT} {ρ : Env} {S : Store} {Q : Bool → Store → Prop} (p : PW X e t) (h : ∀ σ H m G, SimX X ξ m G H S → RepSt X.K m G σ ρ → t σ H (EvT X.K m G H Q)) : WpW X ξ e ρ S Q :=
  ⟨fun σ H m G s r wh pins sh I => p.run wh pins sh σ H _ I (h σ H m G s r)⟩
theorem WpS.of {st : Stmt} {t : TS} {ρ : Env} {S : Store} {P : Post} (p : PS X st t) (h : ∀ σ H m G, SimX X ξ m G H S → RepSt X.K m G σ ρ → t (liftP X.K m G H P) σ H) : WpS X ξ st ρ S P :=
  ⟨fun σ H m G s r pins sh I => p.run pins sh σ H _ I (h σ H m G s r)⟩
theorem WpB.of {st : List Stmt} {t : TS} {ρ : Env} {S : Store} {P : Post} (p : PSs X st t) (h : ∀ σ H m G, SimX X ξ m G H S → RepSt X.K m G σ ρ → t (liftP X.K m G H P) σ H) : WpB X ξ st ρ S P :=
  ⟨fun σ H m G s r pins sh I => p.run pins sh σ H _ I (h σ H m G s r)⟩
/-- use: behind e, go on at what it left -/
theorem WpE.use {ρ : Env} {S : Store} {Q : D → Store → Prop} {Q' : VK} {m : List Addr} {G : Hp} (h : WpE X ξ e ρ S Q) (s : SimX X ξ m G H S) (r : RepSt X.K m G σ ρ)
    (k : ∀ v d H' S' m' G', Q d S' → Le m G H m' G' H' → SimX X ξ m' G' H' S' → Rep X.K m' G' v d → RepSt X.K m' G' σ ρ → Q' v H') : tUE X e σ H Q' :=
  (h.run σ H m G s r).mono fun v H' ⟨d, S', m', G', q, l, s', r'⟩ => k v d H' S' m' G' q l (s.to l s') r' (r.mono l)
theorem WpT.use {ρ : Env} {S : Store} {Q : Bool → Store → Prop} {Q' : Bool → Hp → Prop} {m : List Addr} {G : Hp} (h : WpT X ξ e ρ S Q) (s : SimX X ξ m G H S) (r : RepSt X.K m G σ ρ)
    (k : ∀ b H' S' m' G', Q b S' → Le m G H m' G' H' → SimX X ξ m' G' H' S' → RepSt X.K m' G' σ ρ → Q' b H') : tUT X e σ H Q' :=
  (h.run σ H m G s r).mono fun b H' ⟨S', m', G', q, l, s'⟩ => k b H' S' m' G' q l (s.to l s') (r.mono l)
theorem WpW.use {ρ : Env} {S : Store} {Q : Bool → Store → Prop} {Q' : Bool → Hp → Prop} {m : List Addr} {G : Hp} (h : WpW X ξ e ρ S Q) (s : SimX X ξ m G H S) (r : RepSt X.K m G σ ρ)
    (k : ∀ b H' S' m' G', Q b S' → Le m G H m' G' H' → SimX X ξ m' G' H' S' → RepSt X.K m' G' σ ρ → Q' b H') : tUW X e σ H Q' :=
  (h.run σ H m G s r).mono fun b H' ⟨S', m', G', q, l, s'⟩ => k b H' S' m' G' q l (s.to l s') (r.mono l)
theorem WpA.use {ρ : Env} {S : Store} {Q : List D → Store → Prop} {Q' : List V → Hp → Prop} {m : List Addr} {G : Hp} (h : WpA X ξ es ρ S Q) (s : SimX X ξ m G H S) (r : RepSt X.K m G σ ρ)
    (k : ∀ vs ds H' S' m' G', Q ds S' → Le m G H m' G' H' → SimX X ξ m' G' H' S' → Reps X.K m' G' vs ds → RepSt X.K m' G' σ ρ → Q' vs H') : tUA X es σ H Q' :=
  (h.run σ H m G s r).mono fun v H' ⟨d, S', m', G', q, l, s', r'⟩ => k v d H' S' m' G' q l (s.to l s') r' (r.mono l)
theorem WpG.use {t : Expr} {d : D} {v : V} {ρ : Env} {S : Store} {Q : Env → Store → Prop} {Q' : L2.St → Hp → Prop} {m : List Addr} {G : Hp} (h : WpG X ξ t d ρ S Q) (s : SimX X ξ m G H S) (r : RepSt X.K m G σ ρ) (rv : Rep X.K m G v d)
    (k : ∀ σ' ρ' H' S' m' G', Q ρ' S' → Le m G H m' G' H' → SimX X ξ m' G' H' S' → RepSt X.K m' G' σ' ρ' → Q' σ' H') : tUG X t v σ H Q' :=
  (h.run v σ H m G s r rv).mono fun σ' H' ⟨ρ', S', m', G', q, l, s', r'⟩ => k σ' ρ' H' S' m' G' q l (s.to l s') r'
theorem EvR.mk {K : PySem.W.Frag} {m : List Addr} {G H : Hp} {Q : D → Store → Prop} {v : V} {d : D} {S : Store} {m' : List Addr} {G' H' : Hp} (q : Q d S) (l : Le m G H m' G' H') (s : Sim K m' G' H' S) (r : Rep K m' G' v d) : EvR K m G H Q v H' := ⟨d, S, m', G', q, l, s, r⟩
end
end Dl

set_option linter.all false
set_option maxRecDepth 100000
set_option maxHeartbeats 4000000
set_option autoImplicit false
/-! Rules over data: expressions, tests, statements. -/
namespace Dl
open PySem L2

/-! ### inversion -/
section
variable {K : PySem.W.Frag} {m : List Addr} {G H : Hp} {v : V} {S : Store}
theorem Rep.int_ {i : Int} (h : Rep K m G v (.int i)) : v = .int i := by cases h; rfl
theorem Rep.str_ {i : Str} (h : Rep K m G v (.str i)) : v = .str i := by cases h; rfl
theorem Rep.bl_ {i : Bool} (h : Rep K m G v (.bl i)) : v = .bl i := by cases h; rfl
theorem Rep.non_ (h : Rep K m G v .non) : v = .non := by cases h; rfl
theorem Rep.lst_ {ds : List D} (h : Rep K m G v (.lst ds)) (s : Sim K m G H S) : ∃ a vs, v = .ref a ∧ G a = some (.lst vs) ∧ H a = some (.lst vs) ∧ Reps K m G vs ds := by
  cases h with
  | lst h r => exact ⟨_, _, rfl, h, s.ex _ _ h, r⟩
theorem Rd.ex {a : Addr} {u : HO} (s : Sim K m G H S) (h : Rd G a u) : Rd H a u := by
  rcases h with h | ⟨o, h⟩
  · exact .inl (s.ex _ _ h)
  · exact .inr ⟨o, s.ex _ _ h⟩
theorem sqT_ex {a : Addr} {xs : List V} (s : Sim K m G H S) (h : SqT K G a xs) : SqT K H a xs := by
  rcases h with h | h
  · exact .inl (Rd.ex s h)
  · exact .inr h
theorem sqL_ex {a : Addr} {xs : List V} (s : Sim K m G H S) (h : SqL K G a xs) : SqL K H a xs := by
  rcases h with h | h
  · exact .inl (Rd.ex s h)
  · exact .inr h
theorem Rep.tup_ {ds : List D} (h : Rep K m G v (.tup ds)) (s : Sim K m G H S) : ∃ a vs, v = .ref a ∧ SqT K G a vs ∧ SqT K H a vs ∧ Reps K m G vs ds := by
  cases h with
  | tup h r => exact ⟨_, _, rfl, h, sqT_ex s h, r⟩
theorem Rep.cell_ {i : Nat} (h : Rep K m G v (.cell i)) : ∃ a, v = .ref a ∧ m[i]? = some a := by
  cases h with
  | cell h => exact ⟨_, rfl, h⟩
theorem Rep.dct_ {kvs : List (Key × D)} (h : Rep K m G v (.dct kvs)) : ∃ a ks, v = .ref a ∧ Rd G a (.dK ks) ∧ ks.map (·.1) = kvs.map (·.1) ∧ Reps K m G (ks.map (·.2)) (kvs.map (·.2)) := by
  cases h with
  | dct h e r => exact ⟨_, _, rfl, h, e, r⟩
theorem Rep.obj_ {C : Addr} {fs : List (Str × D)} (h : Rep K m G v (.obj C fs)) (s : Sim K m G H S) : ∃ a dx ks, v = .ref a ∧ H a = some (.ins C dx ks) ∧ ks.map (·.1) = fs.map (·.1) ∧ Reps K m G (ks.map (·.2)) (fs.map (·.2)) := by
  cases h with
  | obj h e r => exact ⟨_, _, _, rfl, s.ex _ _ h, e, r⟩
end

section
variable {X : Cx} {ξ : XD} {e a b : Expr} {ρ : Env} {S : Store} {Q : D → Store → Prop} {pos : Pos}
/-! ### names, constants -/
theorem we_name {x : Str} {d : D} (i : Nat) (h : Q d S) (hρ : ρ[i]? = some (some d) := by rfl) (hN : X.N[i]? = some x := by rfl)
    (hv : Vis X.env.scope x := by first | exact Or.inl rfl | exact Or.inr (Or.inl rfl) | exact Or.inr (Or.inr rfl)) (hd : (x == ("__debug__" : Str)) = false := by decide) (hcd : (x == ("__classdict__" : Str)) = false := by decide) : WpE X ξ (.Name x pos) ρ S Q :=
  WpE.of (pe_var hN hv hd hcd) fun σ H m G s r => let ⟨v, e, q⟩ := r.2 i d hρ; ⟨v, e, .mk h (.refl ..) s q⟩
theorem we_int {i : Int} {j : Nat} (h : Q (.int i) S) : WpE X ξ (.Constant (.int i) j pos) ρ S Q := WpE.of pe_int fun σ H m G s r => .mk h (.refl ..) s (.int i)
theorem we_bl {i : Bool} {j : Nat} (h : Q (.bl i) S) : WpE X ξ (.Constant (.bool i) j pos) ρ S Q := WpE.of pe_bl fun σ H m G s r => .mk h (.refl ..) s (.bl i)
theorem we_non {j : Nat} (h : Q .non S) : WpE X ξ (.Constant .none j pos) ρ S Q := WpE.of pe_non fun σ H m G s r => .mk h (.refl ..) s .non
theorem we_str {i : Str} {j : Nat} (h : Q (.str i) S) : WpE X ξ (.Constant (.str i) j pos) ρ S Q := WpE.of pe_str fun σ H m G s r => .mk h (.refl ..) s (.str i)
/-- a module's constant: u its value, d what it stands for -/
def GlobD (K : PySem.W.Frag) (u : Value) (d : D) : Prop := ∃ v, RelV v u ∧ ∀ m G, Rep K m G v d
theorem we_glob {x : Str} {u : Value} {d : D} (g : GlobD X.K u d) (hm : X.mg x = some u) (h : Q d S) (hg : Gl X x := by rfl) (hd : (x == ("__debug__" : Str)) = false := by decide) : WpE X ξ (.Name x pos) ρ S Q := by
  obtain ⟨v, r, k⟩ := g
  exact WpE.of (pe_glob hg hm r hd) fun σ H m G s _ => .mk h (.refl ..) s (k m G)
/-- the global name x is a constant that stands for d -/
def GlobC (K : PySem.W.Frag) (mg : Str → Option Value) (x : Str) (d : D) : Prop := ∃ u, mg x = some u ∧ GlobD K u d
theorem we_const {x : Str} {d : D} (g : GlobC X.K X.mg x d) (h : Q d S) (hg : Gl X x := by rfl) (hd : (x == ("__debug__" : Str)) = false := by decide) : WpE X ξ (.Name x pos) ρ S Q := by
  obtain ⟨u, hm, g⟩ := g
  exact we_glob g hm h hg hd
theorem we_bltn {x : Str} {n : String} (hm : X.mg x = none) (h : Q (.ty n) S) (hg : Gl X x := by rfl) (hv : bootBuiltins x = some (.type n) := by decide +kernel) (hn : x ≠ "__name__" := by decide) (hd : (x == ("__debug__" : Str)) = false := by decide) : WpE X ξ (.Name x pos) ρ S Q :=
  WpE.of (pe_bltn (v := .ty n) hg hm hv rfl hn hd) fun σ H m G s _ => .mk h (.refl ..) s (.ty n)

/-! ### argument lists, displays -/
theorem wa_nil {Q : List D → Store → Prop} (h : Q [] S) : WpA X ξ [] ρ S Q := ⟨fun σ H m G s r pos pins sh I => pa_nil.run pos pins sh σ H _ I (show EvA X.K m G H Q [] H from ⟨[], S, m, G, h, .refl .., s, .nil⟩)⟩
theorem wa_cons {es : List Expr} {Q : List D → Store → Prop} (h : WpE X ξ e ρ S fun d S1 => WpA X ξ es ρ S1 fun ds S2 => Q (d :: ds) S2) (hs : starEach (e :: es) X.env = (false, eval e X.env) :: starEach es X.env := by rfl) : WpA X ξ (e :: es) ρ S Q :=
  ⟨fun σ H m G s r pos pins sh I => (pa_cons (uE e) (uA es) hs).run pos pins sh σ H _ I
    (h.use s r fun v d H1 S1 m1 G1 q l1 s1 r1 rs1 => q.use s1 rs1 fun vs ds H2 S2 m2 G2 q2 l2 s2 r2 _ => ⟨d :: ds, S2, m2, G2, q2, l1.trans l2, s2, .cons (r1.mono l2) r2⟩)⟩
theorem we_list {es : List Expr} (h : WpA X ξ es ρ S fun ds S1 => ds.length ≤ sizeLine ∧ Q (.lst ds) S1) : WpE X ξ (.List es pos) ρ S Q :=
  WpE.of (pe_lst (uA es)) fun σ H m G s r => h.use s r fun vs ds H1 S1 m1 G1 q l1 s1 r1 _ => ⟨by rw [r1.length]; exact q.1, fun p hp => by
    obtain ⟨s2, l2⟩ := s1.alloc hp (.lst vs)
    exact .mk q.2 (l1.trans l2) s2 (.lst upd_same (r1.mono l2))⟩
/-- a list that will be changed -/
theorem we_listC {es : List Expr} (h : WpA X ξ es ρ S fun ds S1 => ds.length ≤ sizeLine ∧ Q (.cell S1.length) (S1 ++ [.lst ds])) : WpE X ξ (.List es pos) ρ S Q :=
  WpE.of (pe_lst (uA es)) fun σ H m G s r => h.use s r fun vs ds H1 S1 m1 G1 q l1 s1 r1 _ => ⟨by rw [r1.length]; exact q.1, fun p hp => by
    obtain ⟨s2, l2⟩ := s1.newCell (c := .lst ds) hp ⟨vs, upd_same, Reps.mono' (pre_snoc _ _) (fun _ _ h => h) (fun _ _ h _ => h) r1⟩
    exact .mk q.2 (l1.trans l2) s2 (.cell (by rw [← s1.len, get_snoc]))⟩
theorem we_tuple {es : List Expr} {k : Nat} (h : WpA X ξ es ρ S fun ds S1 => ds.length ≤ sizeLine ∧ Q (.tup ds) S1) : WpE X ξ (.Tuple es k pos) ρ S Q :=
  WpE.of (pe_tup (uA es)) fun σ H m G s r => h.use s r fun vs ds H1 S1 m1 G1 q l1 s1 r1 _ => ⟨by rw [r1.length]; exact q.1, fun p hp => by
    obtain ⟨s2, l2⟩ := s1.alloc hp (.tup vs)
    exact .mk q.2 (l1.trans l2) s2 (.tup (.inl (.inl upd_same)) (r1.mono l2))⟩

/-! ### operators: f the answer over data -/
/-- a reading r of values keeps what f says of data -/
def Fits2 (X : Cx) (r : R2) (f : D → D → Store → (D → Store → Prop) → Prop) : Prop := ∀ (x y : D) (S : Store) (Q : D → Store → Prop) (m : List Addr) (G H : Hp) (vx vy : V), Sim X.K m G H S → Rep X.K m G vx x → Rep X.K m G vy y → f x y S Q → r vx vy H (EvR X.K m G H Q)
theorem R2.back {r : R2} (mono : ∀ x y H (Q Q' : VK), (∀ v H', Q v H' → Q' v H') → r x y H Q → r x y H Q') : True := trivial
theorem we_op {op : Operator} {r : R2} {f : D → D → Store → (D → Store → Prop) → Prop} (ho : OpR X (binaryOp op) r) (mono : ∀ x y H (Q Q' : VK), (∀ v H', Q v H' → Q' v H') → r x y H Q → r x y H Q') (hf : Fits2 X r f)
    (h : WpE X ξ a ρ S fun x S1 => WpE X ξ b ρ S1 fun y S2 => f x y S2 Q) : WpE X ξ (.BinOp a op b pos) ρ S Q :=
  WpE.of (pe_op ho (uE a) (uE b)) fun σ H m G s r => h.use s r fun v d H1 S1 m1 G1 q l1 s1 r1 rs1 => q.use s1 rs1 fun w d2 H2 S2 m2 G2 q2 l2 s2 r2 _ =>
    mono _ _ _ _ _ (fun _ _ z => z.back (l1.trans l2)) (hf d d2 S2 Q m2 G2 H2 v w s2 (r1.mono l2) r2 q2)
/-- a compare, as a value and as a test -/
theorem we_cmp {op : CmpOp} {r : R2} {f : D → D → Store → (D → Store → Prop) → Prop} (ho : OpR X (compareOp op) r) (mono : ∀ x y H (Q Q' : VK), (∀ v H', Q v H' → Q' v H') → r x y H Q → r x y H Q') (hf : Fits2 X r f)
    (h : WpE X ξ a ρ S fun x S1 => WpE X ξ b ρ S1 fun y S2 => f x y S2 Q) (hm : behindInMarks op b = false) : WpE X ξ (.Compare a [op] [b] pos) ρ S Q :=
  WpE.of (pe_cmpR ho (uE a) (uE b) hm) fun σ H m G s r => h.use s r fun v d H1 S1 m1 G1 q l1 s1 r1 rs1 => q.use s1 rs1 fun w d2 H2 S2 m2 G2 q2 l2 s2 r2 _ =>
    mono _ _ _ _ _ (fun _ _ z => z.back (l1.trans l2)) (hf d d2 S2 Q m2 G2 H2 v w s2 (r1.mono l2) r2 q2)
theorem wt_cmp {op : CmpOp} {r : R2} {f : D → D → Store → (D → Store → Prop) → Prop} {Q : Bool → Store → Prop} (ho : OpR X (compareOp op) r) (mono : ∀ x y H (Q Q' : VK), (∀ v H', Q v H' → Q' v H') → r x y H Q → r x y H Q') (hf : Fits2 X r f)
    (h : WpE X ξ a ρ S fun x S1 => WpE X ξ b ρ S1 fun y S2 => f x y S2 fun d S3 => ∃ k, d = .bl k ∧ Q k S3) (hm : behindInMarks op b = false) : WpT X ξ (.Compare a [op] [b] pos) ρ S Q :=
  WpT.of (pt_cmpR ho (uE a) (uE b) hm) fun σ H m G s r => h.use s r fun v d H1 S1 m1 G1 q l1 s1 r1 rs1 => q.use s1 rs1 fun w d2 H2 S2 m2 G2 q2 l2 s2 r2 _ =>
    mono _ _ _ _ _ (fun _ _ ⟨dd, S', m', G', ⟨k, e, q⟩, l, s', r'⟩ => ⟨k, (by subst e; exact r'.bl_), S', m', G', q, (l1.trans l2).trans l, s'⟩) (hf d d2 S2 _ m2 G2 H2 v w s2 (r1.mono l2) r2 q2)

theorem rI0_mono {g : Int → Int → V} : ∀ x y H (Q Q' : VK), (∀ v H', Q v H' → Q' v H') → rI0 g x y H Q → rI0 g x y H Q' := fun _ _ _ _ _ k ⟨i, j, e1, e2, q⟩ => ⟨i, j, e1, e2, k _ _ q⟩
theorem rI_mono {C : Int → Int → Prop} {g : Int → Int → V} : ∀ x y H (Q Q' : VK), (∀ v H', Q v H' → Q' v H') → rI C g x y H Q → rI C g x y H Q' := fun _ _ _ _ _ k ⟨i, j, e1, e2, c, q⟩ => ⟨i, j, e1, e2, c, k _ _ q⟩
/-- ints in, an int out -/
def dI (C : Int → Int → Prop) (g : Int → Int → Int) (x y : D) (S : Store) (Q : D → Store → Prop) : Prop := match x, y with
  | .int i, .int j => C i j ∧ Q (.int (g i j)) S
  | _, _ => False
theorem fits_I {C : Int → Int → Prop} {g : Int → Int → Int} : Fits2 X (rI C fun i j => .int (g i j)) (dI C g) := by
  intro x y S Q m G H vx vy s rx ry h
  cases x <;> cases y <;> first | exact h.elim | skip
  obtain ⟨c, q⟩ := h
  exact ⟨_, _, rx.int_, ry.int_, c, .mk q (.refl ..) s (.int _)⟩
def dSub (x y : D) (S : Store) (Q : D → Store → Prop) : Prop := match x, y with
  | .int i, .int j => True ∧ Q (.int (i - j)) S
  | _, _ => False
def dDiv (x y : D) (S : Store) (Q : D → Store → Prop) : Prop := match x, y with
  | .int i, .int j => CDiv i j ∧ Q (.int (i / j)) S
  | _, _ => False
def dMod (x y : D) (S : Store) (Q : D → Store → Prop) : Prop := match x, y with
  | .int i, .int j => 0 < j ∧ Q (.int (i % j)) S
  | _, _ => False
def dPow (x y : D) (S : Store) (Q : D → Store → Prop) : Prop := match x, y with
  | .int i, .int j => CPow i j ∧ Q (.int (i ^ j.toNat)) S
  | _, _ => False
def dShl (x y : D) (S : Store) (Q : D → Store → Prop) : Prop := match x, y with
  | .int i, .int j => CPow i j ∧ Q (.int (i * 2 ^ j.toNat)) S
  | _, _ => False
def dShr (x y : D) (S : Store) (Q : D → Store → Prop) : Prop := match x, y with
  | .int i, .int j => 0 ≤ j ∧ Q (.int (i / 2 ^ j.toNat)) S
  | _, _ => False
def dOr (x y : D) (S : Store) (Q : D → Store → Prop) : Prop := match x, y with
  | .int i, .int j => True ∧ Q (.int (Builtin.bitOr i j)) S
  | _, _ => False
def dAnd (x y : D) (S : Store) (Q : D → Store → Prop) : Prop := match x, y with
  | .int i, .int j => True ∧ Q (.int (Builtin.bitAnd i j)) S
  | _, _ => False
def dMul (x y : D) (S : Store) (Q : D → Store → Prop) : Prop := match x, y with
  | .int i, .int j => CMul i j ∧ Q (.int (i * j)) S
  | _, _ => False
theorem we_sub (h : WpE X ξ a ρ S fun x S1 => WpE X ξ b ρ S1 fun y S2 => dSub x y S2 Q) : WpE X ξ (.BinOp a .Sub b pos) ρ S Q :=
  we_op (r := rI (fun _ _ => True) fun i j => .int (i - j)) (fun pins s σ H x y v u Q I rx ry ⟨i, j, e1, e2, _, q⟩ => op_sub pins s σ H x y v u Q I rx ry ⟨i, j, e1, e2, q⟩) rI_mono fits_I h
theorem we_fdiv (h : WpE X ξ a ρ S fun x S1 => WpE X ξ b ρ S1 fun y S2 => dDiv x y S2 Q) : WpE X ξ (.BinOp a .FloorDiv b pos) ρ S Q := we_op op_fdiv rI_mono fits_I h
theorem we_mod (h : WpE X ξ a ρ S fun x S1 => WpE X ξ b ρ S1 fun y S2 => dMod x y S2 Q) : WpE X ξ (.BinOp a .Mod b pos) ρ S Q := we_op op_mod rI_mono fits_I h
theorem we_pow (h : WpE X ξ a ρ S fun x S1 => WpE X ξ b ρ S1 fun y S2 => dPow x y S2 Q) : WpE X ξ (.BinOp a .Pow b pos) ρ S Q := we_op op_pow rI_mono fits_I h
theorem we_shl (h : WpE X ξ a ρ S fun x S1 => WpE X ξ b ρ S1 fun y S2 => dShl x y S2 Q) : WpE X ξ (.BinOp a .LShift b pos) ρ S Q := we_op op_shl rI_mono fits_I h
theorem we_shr (h : WpE X ξ a ρ S fun x S1 => WpE X ξ b ρ S1 fun y S2 => dShr x y S2 Q) : WpE X ξ (.BinOp a .RShift b pos) ρ S Q := we_op op_shr rI_mono fits_I h
theorem we_bor (h : WpE X ξ a ρ S fun x S1 => WpE X ξ b ρ S1 fun y S2 => dOr x y S2 Q) : WpE X ξ (.BinOp a .BitOr b pos) ρ S Q :=
  we_op (r := rI (fun _ _ => True) fun i j => .int (Builtin.bitOr i j)) (fun pins s σ H x y v u Q I rx ry ⟨i, j, e1, e2, _, q⟩ => op_or pins s σ H x y v u Q I rx ry ⟨i, j, e1, e2, q⟩) rI_mono fits_I h
theorem we_band (h : WpE X ξ a ρ S fun x S1 => WpE X ξ b ρ S1 fun y S2 => dAnd x y S2 Q) : WpE X ξ (.BinOp a .BitAnd b pos) ρ S Q :=
  we_op (r := rI (fun _ _ => True) fun i j => .int (Builtin.bitAnd i j)) (fun pins s σ H x y v u Q I rx ry ⟨i, j, e1, e2, _, q⟩ => op_and pins s σ H x y v u Q I rx ry ⟨i, j, e1, e2, q⟩) rI_mono fits_I h
/-- + -/
def dAdd (x y : D) (S : Store) (Q : D → Store → Prop) : Prop := match x, y with
  | .int i, .int j => Q (.int (i + j)) S
  | .str s, .str t => s.length + t.length ≤ sizeLine ∧ Q (.str (s ++ t)) S
  | .lst s, .lst t => s.length + t.length ≤ sizeLine ∧ Q (.lst (s ++ t)) S
  | .tup s, .tup t => s ≠ [] ∧ s.length + t.length ≤ sizeLine ∧ Q (.tup (s ++ t)) S
  | _, _ => False
abbrev rAddD (K : PySem.W.Frag) : R2 := fun x y H Q => (rI0 fun i j => .int (i + j)) x y H Q ∨ ((fun (x y : V) (H : Hp) (Q : VK) => ∃ i j, x = .str i ∧ y = .str j ∧ i.length + j.length ≤ sizeLine ∧ Q (.str (i ++ j)) H) x y H Q ∨ (rCat x y H Q ∨ rCatT K x y H Q))
theorem rAddD_mono {K : PySem.W.Frag} : ∀ x y H (Q Q' : VK), (∀ v H', Q v H' → Q' v H') → rAddD K x y H Q → rAddD K x y H Q' := fun x y H Q Q' k h => by
  rcases h with ⟨i, j, e1, e2, q⟩ | ⟨i, j, e1, e2, c, q⟩ | ⟨l, b, xs, zs, e1, e2, h1, h2, z, q⟩ | ⟨l, b, xs, ys, e1, e2, h1, h2, z, z2, q1, q2⟩
  · exact .inl ⟨i, j, e1, e2, k _ _ q⟩
  · exact .inr (.inl ⟨i, j, e1, e2, c, k _ _ q⟩)
  · exact .inr (.inr (.inl ⟨l, b, xs, zs, e1, e2, h1, h2, z, fun p hp => k _ _ (q p hp)⟩))
  · exact .inr (.inr (.inr ⟨l, b, xs, ys, e1, e2, h1, h2, z, z2, fun e => k _ _ (q1 e), fun e p hp => k _ _ (q2 e p hp)⟩))
theorem Reps.ne_nil {K : PySem.W.Frag} {m : List Addr} {G : Hp} {vs : List V} {ds : List D} (r : Reps K m G vs ds) (h : ds ≠ []) : vs ≠ [] := fun e => by
  subst e
  cases r
  exact h rfl
theorem fits_add : Fits2 X (rAddD X.K) dAdd := by
  intro x y S Q m G H vx vy s rx ry h
  cases x <;> cases y <;> first | exact h.elim | skip
  · exact .inl ⟨_, _, rx.int_, ry.int_, .mk h (.refl ..) s (.int _)⟩
  · obtain ⟨c, q⟩ := h
    exact .inr (.inl ⟨_, _, rx.str_, ry.str_, c, .mk q (.refl ..) s (.str _)⟩)
  · obtain ⟨n, c, q⟩ := h
    obtain ⟨p1, v1, e1, g1, h1, r1⟩ := rx.tup_ s
    obtain ⟨p2, v2, e2, g2, h2, r2⟩ := ry.tup_ s
    refine .inr (.inr (.inr ⟨p1, p2, v1, v2, e1, e2, h1, h2, r1.ne_nil n, by rw [r1.length, r2.length]; exact c, fun z => ?_, fun z p hp => ?_⟩))
    · subst z
      cases r2
      refine .mk q (.refl ..) s (.tup g1 ?_)
      rw [List.append_nil]
      exact r1
    · obtain ⟨s2, l2⟩ := s.alloc hp (.tup (v1 ++ v2))
      exact .mk q l2 s2 (.tup (.inl (.inl upd_same)) ((r1.append r2).mono l2))
  · obtain ⟨c, q⟩ := h
    obtain ⟨p1, v1, e1, g1, h1, r1⟩ := rx.lst_ s
    obtain ⟨p2, v2, e2, g2, h2, r2⟩ := ry.lst_ s
    refine .inr (.inr (.inl ⟨p1, p2, v1, v2, e1, e2, h1, h2, by rw [r1.length, r2.length]; exact c, fun p hp => ?_⟩))
    obtain ⟨s2, l2⟩ := s.alloc hp (.lst (v1 ++ v2))
    exact .mk q l2 s2 (.lst upd_same ((r1.append r2).mono l2))
theorem we_add (h : WpE X ξ a ρ S fun x S1 => WpE X ξ b ρ S1 fun y S2 => dAdd x y S2 Q) : WpE X ξ (.BinOp a .Add b pos) ρ S Q :=
  we_op (op_add.or (op_add_str.or (op_cat.or op_catT))) rAddD_mono fits_add h
/-- * : ints; a text by a number -/
theorem we_mul (h : WpE X ξ a ρ S fun x S1 => WpE X ξ b ρ S1 fun y S2 => dMul x y S2 Q) : WpE X ξ (.BinOp a .Mult b pos) ρ S Q := we_op op_mul rI_mono fits_I h
theorem we_neg (h : WpE X ξ a ρ S fun x S1 => match x with | .int i => Q (.int (-i)) S1 | _ => False) : WpE X ξ (.UnaryOp .USub a pos) ρ S Q :=
  WpE.of (pe_un un_neg (uE a)) fun σ H m G s r => h.use s r fun v d H1 S1 m1 G1 q l1 s1 r1 rs1 => by
    cases d <;> first | exact q.elim | skip
    exact ⟨_, r1.int_, .mk q l1 s1 (.int _)⟩
end

/-! ### == and != -/
mutual
def toPy : D → Option PyData
  | .non => some .none
  | .bl b => some (.bool b)
  | .int i => some (.int i)
  | .str s => some (.str s)
  | .tup ds => (toPys ds).map .tuple
  | .lst ds => (toPys ds).map .list
  | .klst ds => (toPys ds).map .list
  | _ => none
def toPys : List D → Option (List PyData)
  | [] => some []
  | d :: ds => match toPy d, toPys ds with
    | some p, some ps => some (p :: ps)
    | _, _ => none
end
section
variable {K : PySem.W.Frag} {m : List Addr} {G H : Hp} {S : Store}
mutual
theorem Rep.dp (s : Sim K m G H S) : ∀ {v : V} {d : D} {p : PyData}, Rep K m G v d → toPy d = some p → Dp K H v p
  | _, _, _, .non, e => by cases e; exact .non
  | _, _, _, .bl b, e => by cases e; exact .bl b
  | _, _, _, .int i, e => by cases e; exact .int i
  | _, _, _, .str i, e => by cases e; exact .str i
  | _, _, _, .ty _, e => by cases e
  | _, _, _, .ref _, e => by cases e
  | _, _, _, .dct .., e => by cases e
  | _, _, _, .dtt .., e => by cases e
  | _, _, _, .obj .., e => by cases e
  | _, _, _, .cell .., e => by cases e
  | _, _, _, .tup (ds := ds) h r, e => by
    have e : (toPys ds).map PyData.tuple = some _ := e
    obtain ⟨ps, h1, h2⟩ := Option.map_eq_some_iff.mp e
    subst h2
    exact .tup (sqT_ex s h) (Reps.dp s r h1)
  | _, _, _, .lst (ds := ds) h r, e => by
    have e : (toPys ds).map PyData.list = some _ := e
    obtain ⟨ps, h1, h2⟩ := Option.map_eq_some_iff.mp e
    subst h2
    exact .lst (.of (s.ex _ _ h)) (Reps.dp s r h1)
  | _, _, _, .klst (ds := ds) h r, e => by
    have e : (toPys ds).map PyData.list = some _ := e
    obtain ⟨ps, h1, h2⟩ := Option.map_eq_some_iff.mp e
    subst h2
    exact .lst (sqL_ex s h) (Reps.dp s r h1)
theorem Reps.dp (s : Sim K m G H S) : ∀ {vs : List V} {ds : List D} {ps : List PyData}, Reps K m G vs ds → toPys ds = some ps → DpAll K H vs ps
  | _, _, _, .nil, e => by cases e; exact .nil
  | _, _, _, .cons (d := d) (ds := ds) h t, e => by
    unfold toPys at e
    cases e1 : toPy d with
    | none => rw [e1] at e; cases e
    | some p =>
      cases e2 : toPys ds with
      | none => rw [e1, e2] at e; cases e
      | some ps =>
        rw [e1, e2] at e
        cases e
        exact .cons (Rep.dp s h e1) (Reps.dp s t e2)
end
end
def dEq (x y : D) (S : Store) (Q : D → Store → Prop) : Prop := ∃ p q, toPy x = some p ∧ toPy y = some q ∧ SeqAt.shaped p = true ∧ SeqAt.shaped q = true ∧ Q (.bl (PyData.eqv p q)) S
def dNe (x y : D) (S : Store) (Q : D → Store → Prop) : Prop := ∃ p q, toPy x = some p ∧ toPy y = some q ∧ SeqAt.shaped p = true ∧ SeqAt.shaped q = true ∧ Q (.bl (!PyData.eqv p q)) S
section
variable {X : Cx} {ξ : XD} {e a b : Expr} {ρ : Env} {S : Store} {Q : D → Store → Prop} {pos : Pos}
theorem rEqD_mono {K : PySem.W.Frag} : ∀ x y H (Q Q' : VK), (∀ v H', Q v H' → Q' v H') → rEqD K x y H Q → rEqD K x y H Q' := fun _ _ _ _ _ k ⟨d, e, h1, h2, h3, h4, q⟩ => ⟨d, e, h1, h2, h3, h4, k _ _ q⟩
theorem rNeD_mono {K : PySem.W.Frag} : ∀ x y H (Q Q' : VK), (∀ v H', Q v H' → Q' v H') → rNeD K x y H Q → rNeD K x y H Q' := fun _ _ _ _ _ k ⟨d, e, h1, h2, h3, h4, q⟩ => ⟨d, e, h1, h2, h3, h4, k _ _ q⟩
theorem fits_eq : Fits2 X (rEqD X.K) dEq := fun x y S Q m G H vx vy s rx ry ⟨p, q, e1, e2, h1, h2, z⟩ => ⟨p, q, rx.dp s e1, ry.dp s e2, h1, h2, .mk z (.refl ..) s (.bl _)⟩
theorem fits_ne : Fits2 X (rNeD X.K) dNe := fun x y S Q m G H vx vy s rx ry ⟨p, q, e1, e2, h1, h2, z⟩ => ⟨p, q, rx.dp s e1, ry.dp s e2, h1, h2, .mk z (.refl ..) s (.bl _)⟩
theorem we_eq (hu : X.A.units + 64 < cLine) (h : WpE X ξ a ρ S fun x S1 => WpE X ξ b ρ S1 fun y S2 => dEq x y S2 Q) : WpE X ξ (.Compare a [.Eq] [b] pos) ρ S Q := we_cmp (op_eqD hu) rEqD_mono fits_eq h (nomark _)
theorem we_ne (hu : X.A.units + 64 < cLine) (h : WpE X ξ a ρ S fun x S1 => WpE X ξ b ρ S1 fun y S2 => dNe x y S2 Q) : WpE X ξ (.Compare a [.NotEq] [b] pos) ρ S Q := we_cmp (op_neD hu) rNeD_mono fits_ne h (nomark _)
theorem wt_eq {Q : Bool → Store → Prop} (hu : X.A.units + 64 < cLine) (h : WpE X ξ a ρ S fun x S1 => WpE X ξ b ρ S1 fun y S2 => dEq x y S2 fun d S3 => ∃ k, d = .bl k ∧ Q k S3) : WpT X ξ (.Compare a [.Eq] [b] pos) ρ S Q := wt_cmp (op_eqD hu) rEqD_mono fits_eq h (nomark _)
theorem wt_ne {Q : Bool → Store → Prop} (hu : X.A.units + 64 < cLine) (h : WpE X ξ a ρ S fun x S1 => WpE X ξ b ρ S1 fun y S2 => dNe x y S2 fun d S3 => ∃ k, d = .bl k ∧ Q k S3) : WpT X ξ (.Compare a [.NotEq] [b] pos) ρ S Q := wt_cmp (op_neD hu) rNeD_mono fits_ne h (nomark _)
theorem dEq_int {i j : Int} {Q : D → Store → Prop} (h : Q (.bl (decide (i = j))) S) : dEq (.int i) (.int j) S Q := ⟨_, _, rfl, rfl, rfl, rfl, by rw [show PyData.eqv (.int i) (.int j) = (i == j) by simp [PyData.eqv], Bool.beq_eq_decide_eq]; exact h⟩
theorem dNe_int {i j : Int} {Q : D → Store → Prop} (h : Q (.bl (!decide (i = j))) S) : dNe (.int i) (.int j) S Q := ⟨_, _, rfl, rfl, rfl, rfl, by rw [show PyData.eqv (.int i) (.int j) = (i == j) by simp [PyData.eqv], Bool.beq_eq_decide_eq]; exact h⟩
theorem strOk_shaped {s : Str} (h : PyData.strOk s = true) : SeqAt.shaped (.str s) = true := by
  unfold SeqAt.shaped
  simp [PyData.canLay0, PyData.depth, h]
theorem dEq_str {i j : Str} {Q : D → Store → Prop} (h1 : PyData.strOk i = true) (h2 : PyData.strOk j = true) (h : Q (.bl (decide (i = j))) S) : dEq (.str i) (.str j) S Q := ⟨_, _, rfl, rfl, strOk_shaped h1, strOk_shaped h2, by rw [show PyData.eqv (.str i) (.str j) = (i == j) by simp [PyData.eqv], Bool.beq_eq_decide_eq]; exact h⟩
theorem dNe_bl {i j : Bool} {Q : D → Store → Prop} (h : Q (.bl (!decide (i = j))) S) : dNe (.bl i) (.bl j) S Q := ⟨_, _, rfl, rfl, rfl, rfl, by rw [show PyData.eqv (.bool i) (.bool j) = (i == j) by simp [PyData.eqv], Bool.beq_eq_decide_eq]; exact h⟩
theorem dEq_bl {i j : Bool} {Q : D → Store → Prop} (h : Q (.bl (decide (i = j))) S) : dEq (.bl i) (.bl j) S Q := ⟨_, _, rfl, rfl, rfl, rfl, by rw [show PyData.eqv (.bool i) (.bool j) = (i == j) by simp [PyData.eqv], Bool.beq_eq_decide_eq]; exact h⟩

/-! ### order of ints -/
def dCmpI (g : Int → Int → Bool) (x y : D) (S : Store) (Q : D → Store → Prop) : Prop := match x, y with
  | .int i, .int j => Q (.bl (g i j)) S
  | _, _ => False
theorem fits_cmpI {g : Int → Int → Bool} : Fits2 X (rI0 fun i j => .bl (g i j)) (dCmpI g) := by
  intro x y S Q m G H vx vy s rx ry h
  cases x <;> cases y <;> first | exact h.elim | skip
  exact ⟨_, _, rx.int_, ry.int_, .mk h (.refl ..) s (.bl _)⟩
def dLt (x y : D) (S : Store) (Q : D → Store → Prop) : Prop := match x, y with
  | .int i, .int j => Q (.bl (decide (i < j))) S
  | _, _ => False
def dLe (x y : D) (S : Store) (Q : D → Store → Prop) : Prop := match x, y with
  | .int i, .int j => Q (.bl (decide (i ≤ j))) S
  | _, _ => False
def dGt (x y : D) (S : Store) (Q : D → Store → Prop) : Prop := match x, y with
  | .int i, .int j => Q (.bl (decide (j < i))) S
  | _, _ => False
def dGe (x y : D) (S : Store) (Q : D → Store → Prop) : Prop := match x, y with
  | .int i, .int j => Q (.bl (decide (j ≤ i))) S
  | _, _ => False
theorem we_lt (h : WpE X ξ a ρ S fun x S1 => WpE X ξ b ρ S1 fun y S2 => dLt x y S2 Q) : WpE X ξ (.Compare a [.Lt] [b] pos) ρ S Q := we_cmp op_lt rI0_mono fits_cmpI h (nomark _)
theorem we_le (h : WpE X ξ a ρ S fun x S1 => WpE X ξ b ρ S1 fun y S2 => dLe x y S2 Q) : WpE X ξ (.Compare a [.LtE] [b] pos) ρ S Q := we_cmp op_le rI0_mono fits_cmpI h (nomark _)
theorem we_gt (h : WpE X ξ a ρ S fun x S1 => WpE X ξ b ρ S1 fun y S2 => dGt x y S2 Q) : WpE X ξ (.Compare a [.Gt] [b] pos) ρ S Q := we_cmp op_gt rI0_mono fits_cmpI h (nomark _)
theorem we_ge (h : WpE X ξ a ρ S fun x S1 => WpE X ξ b ρ S1 fun y S2 => dGe x y S2 Q) : WpE X ξ (.Compare a [.GtE] [b] pos) ρ S Q := we_cmp op_ge rI0_mono fits_cmpI h (nomark _)
section
variable {Q : Bool → Store → Prop}
theorem wt_lt (h : WpE X ξ a ρ S fun x S1 => WpE X ξ b ρ S1 fun y S2 => dLt x y S2 fun d S3 => ∃ k, d = .bl k ∧ Q k S3) : WpT X ξ (.Compare a [.Lt] [b] pos) ρ S Q := wt_cmp op_lt rI0_mono fits_cmpI h (nomark _)
theorem wt_le (h : WpE X ξ a ρ S fun x S1 => WpE X ξ b ρ S1 fun y S2 => dLe x y S2 fun d S3 => ∃ k, d = .bl k ∧ Q k S3) : WpT X ξ (.Compare a [.LtE] [b] pos) ρ S Q := wt_cmp op_le rI0_mono fits_cmpI h (nomark _)
theorem wt_gt (h : WpE X ξ a ρ S fun x S1 => WpE X ξ b ρ S1 fun y S2 => dGt x y S2 fun d S3 => ∃ k, d = .bl k ∧ Q k S3) : WpT X ξ (.Compare a [.Gt] [b] pos) ρ S Q := wt_cmp op_gt rI0_mono fits_cmpI h (nomark _)
theorem wt_ge (h : WpE X ξ a ρ S fun x S1 => WpE X ξ b ρ S1 fun y S2 => dGe x y S2 fun d S3 => ∃ k, d = .bl k ∧ Q k S3) : WpT X ξ (.Compare a [.GtE] [b] pos) ρ S Q := wt_cmp op_ge rI0_mono fits_cmpI h (nomark _)
end
/-- is, is not with True, False -/
def dIsB (x y : D) (S : Store) (Q : D → Store → Prop) : Prop := match x, y with
  | .bl i, .bl j => Q (.bl (decide (i = j))) S
  | _, _ => False
def dNotB (x y : D) (S : Store) (Q : D → Store → Prop) : Prop := match x, y with
  | .bl i, .bl j => Q (.bl (!decide (i = j))) S
  | _, _ => False
theorem rIsB_mono : ∀ x y H (Q Q' : VK), (∀ v H', Q v H' → Q' v H') → rIsB x y H Q → rIsB x y H Q' := fun _ _ _ _ _ k ⟨i, j, e1, e2, q⟩ => ⟨i, j, e1, e2, k _ _ q⟩
theorem rNotB_mono : ∀ x y H (Q Q' : VK), (∀ v H', Q v H' → Q' v H') → rNotB x y H Q → rNotB x y H Q' := fun _ _ _ _ _ k ⟨i, j, e1, e2, q⟩ => ⟨i, j, e1, e2, k _ _ q⟩
theorem fits_isB : Fits2 X rIsB dIsB := by
  intro x y S Q m G H vx vy s rx ry h
  cases x <;> cases y <;> first | exact h.elim | skip
  exact ⟨_, _, rx.bl_, ry.bl_, .mk h (.refl ..) s (.bl _)⟩
theorem fits_notB : Fits2 X rNotB dNotB := by
  intro x y S Q m G H vx vy s rx ry h
  cases x <;> cases y <;> first | exact h.elim | skip
  exact ⟨_, _, rx.bl_, ry.bl_, .mk h (.refl ..) s (.bl _)⟩
theorem we_isB (h : WpE X ξ a ρ S fun x S1 => WpE X ξ b ρ S1 fun y S2 => dIsB x y S2 Q) : WpE X ξ (.Compare a [.Is] [b] pos) ρ S Q := we_cmp op_isBl rIsB_mono fits_isB h (nomark _)
theorem we_notB (h : WpE X ξ a ρ S fun x S1 => WpE X ξ b ρ S1 fun y S2 => dNotB x y S2 Q) : WpE X ξ (.Compare a [.IsNot] [b] pos) ρ S Q := we_cmp op_notBl rNotB_mono fits_notB h (nomark _)
theorem wt_isB {Q : Bool → Store → Prop} (h : WpE X ξ a ρ S fun x S1 => WpE X ξ b ρ S1 fun y S2 => dIsB x y S2 fun d S3 => ∃ k, d = .bl k ∧ Q k S3) : WpT X ξ (.Compare a [.Is] [b] pos) ρ S Q := wt_cmp op_isBl rIsB_mono fits_isB h (nomark _)
theorem wt_notB {Q : Bool → Store → Prop} (h : WpE X ξ a ρ S fun x S1 => WpE X ξ b ρ S1 fun y S2 => dNotB x y S2 fun d S3 => ∃ k, d = .bl k ∧ Q k S3) : WpT X ξ (.Compare a [.IsNot] [b] pos) ρ S Q := wt_cmp op_notBl rNotB_mono fits_notB h (nomark _)
/-- is None -/
def isNon : D → Bool
  | .non => true
  | _ => false
theorem Rep.isNon_ {K : PySem.W.Frag} {m : List Addr} {G : Hp} {v : V} {d : D} (h : Rep K m G v d) : decide (v = .non) = isNon d := by
  cases h <;> simp [isNon]
theorem we_isN {j : Nat} {p : Pos} (h : WpE X ξ a ρ S fun x S1 => Q (.bl (isNon x)) S1) : WpE X ξ (.Compare a [.Is] [.Constant .none j p] pos) ρ S Q :=
  WpE.of (pe_cmp (pc_isN (uE a))) fun σ H m G s r => h.use s r fun v d H1 S1 m1 G1 q l1 s1 r1 rs1 => by
    show EvR _ _ _ _ Q (.bl (decide (v = .non))) H1
    rw [r1.isNon_]
    exact .mk q l1 s1 (.bl _)
theorem we_notN {j : Nat} {p : Pos} (h : WpE X ξ a ρ S fun x S1 => Q (.bl (!isNon x)) S1) : WpE X ξ (.Compare a [.IsNot] [.Constant .none j p] pos) ρ S Q :=
  WpE.of (pe_cmp (pc_notN (uE a))) fun σ H m G s r => h.use s r fun v d H1 S1 m1 G1 q l1 s1 r1 rs1 => by
    show EvR _ _ _ _ Q (.bl (!decide (v = .non))) H1
    rw [r1.isNon_]
    exact .mk q l1 s1 (.bl _)

/-! ### tests -/
theorem wt_val {Q : Bool → Store → Prop} (h : WpE X ξ e ρ S fun d S1 => ∃ k, d = .bl k ∧ Q k S1) (he : ∀ whole, isTrue e X.env whole = (do let v ← whole; standAt e.pos; holding [v] (truthy v)) := by intro _; rfl) : WpT X ξ e ρ S Q :=
  WpT.of (pt_val (uE e) he) fun σ H m G s r => h.use s r fun v d H1 S1 m1 G1 ⟨k, e, q⟩ l1 s1 r1 rs1 => ⟨k, (by subst e; exact r1.bl_), S1, m1, G1, q, l1, s1⟩
theorem wt_not {Q : Bool → Store → Prop} (h : WpT X ξ a ρ S fun c S1 => Q (!c) S1) : WpT X ξ (.UnaryOp .Not a pos) ρ S Q :=
  WpT.of (pt_not (uT a)) fun σ H m G s r => h.use s r fun b H1 S1 m1 G1 q l1 s1 rs1 => ⟨S1, m1, G1, q, l1, s1⟩
theorem wt_w {Q : Bool → Store → Prop} (h : WpW X ξ e ρ S Q) : WpT X ξ e ρ S Q := WpT.of (uW e).pt fun σ H m G s r => h.use s r fun b H1 S1 m1 G1 q l1 s1 rs1 => ⟨S1, m1, G1, q, l1, s1⟩
theorem ww_and1 {Q : Bool → Store → Prop} (h : WpT X ξ a ρ S Q) : WpW X ξ (.BoolOp .And [a] pos) ρ S Q := WpW.of (pw_and1 (uT a)) fun σ H m G s r => h.use s r fun b H1 S1 m1 G1 q l1 s1 rs1 => ⟨S1, m1, G1, q, l1, s1⟩
theorem ww_or1 {Q : Bool → Store → Prop} (h : WpT X ξ a ρ S Q) : WpW X ξ (.BoolOp .Or [a] pos) ρ S Q := WpW.of (pw_or1 (uT a)) fun σ H m G s r => h.use s r fun b H1 S1 m1 G1 q l1 s1 rs1 => ⟨S1, m1, G1, q, l1, s1⟩
theorem ww_and {Q : Bool → Store → Prop} {rest : List Expr} (h : WpT X ξ a ρ S fun c S1 => (c = true → WpW X ξ (.BoolOp .And (b :: rest) pos) ρ S1 Q) ∧ (c = false → Q false S1)) : WpW X ξ (.BoolOp .And (a :: b :: rest) pos) ρ S Q :=
  WpW.of (pw_and (uT a) (uW _)) fun σ H m G s r => h.use s r fun c H1 S1 m1 G1 q l1 s1 rs1 => by
    cases c with
    | true => exact iteT ((q.1 rfl).use s1 rs1 fun b H2 S2 m2 G2 q2 l2 s2 _ => ⟨S2, m2, G2, q2, l1.trans l2, s2⟩)
    | false => exact iteF ⟨S1, m1, G1, q.2 rfl, l1, s1⟩
theorem ww_or {Q : Bool → Store → Prop} {rest : List Expr} (h : WpT X ξ a ρ S fun c S1 => (c = true → Q true S1) ∧ (c = false → WpW X ξ (.BoolOp .Or (b :: rest) pos) ρ S1 Q)) : WpW X ξ (.BoolOp .Or (a :: b :: rest) pos) ρ S Q :=
  WpW.of (pw_or (uT a) (uW _)) fun σ H m G s r => h.use s r fun c H1 S1 m1 G1 q l1 s1 rs1 => by
    cases c with
    | false => exact iteF ((q.2 rfl).use s1 rs1 fun b H2 S2 m2 G2 q2 l2 s2 _ => ⟨S2, m2, G2, q2, l1.trans l2, s2⟩)
    | true => exact iteT ⟨S1, m1, G1, q.1 rfl, l1, s1⟩
/-- and, or, not as values (bools) -/
theorem we_one {op : BoolOp} (h : WpE X ξ a ρ S Q) : WpE X ξ (.BoolOp op [a] pos) ρ S Q := WpE.of (pe_one (uE a)) fun σ H m G s r => h.run σ H m G s r
theorem we_and {rest : List Expr} (h : WpE X ξ a ρ S fun x S1 => ∃ c, x = .bl c ∧ (c = true → WpE X ξ (.BoolOp .And (b :: rest) pos) ρ S1 Q) ∧ (c = false → Q (.bl false) S1)) : WpE X ξ (.BoolOp .And (a :: b :: rest) pos) ρ S Q :=
  WpE.of (pe_and (uE a) (uE _)) fun σ H m G s r => h.use s r fun v d H1 S1 m1 G1 ⟨c, e, q⟩ l1 s1 r1 rs1 => ⟨c, (by subst e; exact r1.bl_), by
    cases c with
    | true => exact iteT ((q.1 rfl).use s1 rs1 fun b d H2 S2 m2 G2 q2 l2 s2 r2 _ => .mk q2 (l1.trans l2) s2 r2)
    | false => exact iteF (.mk (q.2 rfl) l1 s1 (.bl _))⟩
theorem we_or {rest : List Expr} (h : WpE X ξ a ρ S fun x S1 => ∃ c, x = .bl c ∧ (c = true → Q (.bl true) S1) ∧ (c = false → WpE X ξ (.BoolOp .Or (b :: rest) pos) ρ S1 Q)) : WpE X ξ (.BoolOp .Or (a :: b :: rest) pos) ρ S Q :=
  WpE.of (pe_or (uE a) (uE _)) fun σ H m G s r => h.use s r fun v d H1 S1 m1 G1 ⟨c, e, q⟩ l1 s1 r1 rs1 => ⟨c, (by subst e; exact r1.bl_), by
    cases c with
    | false => exact iteF ((q.2 rfl).use s1 rs1 fun b d H2 S2 m2 G2 q2 l2 s2 r2 _ => .mk q2 (l1.trans l2) s2 r2)
    | true => exact iteT (.mk (q.1 rfl) l1 s1 (.bl _))⟩
theorem we_not (h : WpE X ξ a ρ S fun x S1 => ∃ c, x = .bl c ∧ Q (.bl (!c)) S1) : WpE X ξ (.UnaryOp .Not a pos) ρ S Q :=
  WpE.of (pe_not (uE a)) fun σ H m G s r => h.use s r fun v d H1 S1 m1 G1 ⟨c, e, q⟩ l1 s1 r1 rs1 => ⟨c, (by subst e; exact r1.bl_), .mk q l1 s1 (.bl _)⟩
theorem we_if {c : Expr} (h : WpT X ξ c ρ S fun k S1 => (k = true → WpE X ξ a ρ S1 Q) ∧ (k = false → WpE X ξ b ρ S1 Q)) : WpE X ξ (.IfExp c a b pos) ρ S Q :=
  WpE.of (pe_ifExp (uT c) (uE a) (uE b)) fun σ H m G s r => h.use s r fun k H1 S1 m1 G1 q l1 s1 rs1 => by
    cases k with
    | true => exact iteT ((q.1 rfl).use s1 rs1 fun b d H2 S2 m2 G2 q2 l2 s2 r2 _ => .mk q2 (l1.trans l2) s2 r2)
    | false => exact iteF ((q.2 rfl).use s1 rs1 fun b d H2 S2 m2 G2 q2 l2 s2 r2 _ => .mk q2 (l1.trans l2) s2 r2)
theorem br {p : Prop} [Decidable p] {A B : Prop} (h1 : p → A) (h2 : ¬ p → B) : (decide p = true → A) ∧ (decide p = false → B) := ⟨fun e => h1 (of_decide_eq_true e), fun e => h2 (of_decide_eq_false e)⟩
theorem brN {p : Prop} [Decidable p] {A B : Prop} (h1 : ¬ p → A) (h2 : p → B) : ((!decide p) = true → A) ∧ ((!decide p) = false → B) := ⟨fun e => h1 (by simpa using e), fun e => h2 (by simpa using e)⟩
theorem brB {b : Bool} {A B : Prop} (h1 : b = true → A) (h2 : b = false → B) : (b = true → A) ∧ (b = false → B) := ⟨h1, h2⟩
theorem brNB {b : Bool} {A B : Prop} (h1 : b = false → A) (h2 : b = true → B) : ((!b) = true → A) ∧ ((!b) = false → B) := ⟨fun e => h1 (by simpa using e), fun e => h2 (by simpa using e)⟩
theorem brT {A B : Prop} (h1 : A) : (true = true → A) ∧ (true = false → B) := ⟨fun _ => h1, fun e => (by cases e)⟩
theorem brF {A B : Prop} (h1 : B) : (false = true → A) ∧ (false = false → B) := ⟨fun e => (by cases e), fun _ => h1⟩
end

/-! ### statements -/
section
variable {X : Cx} {ξ : XD} {e a b : Expr} {ρ : Env} {S : Store} {P : Post} {pos : Pos} {st : Stmt} {rest : List Stmt}
theorem wb_nil (h : P.nx ρ S) : WpB X ξ [] ρ S P := WpB.of pss_nil fun σ H m G s r => ⟨ρ, S, m, G, h, .refl .., s, r⟩
theorem WpS.use {σ : L2.St} {H : Hp} {m : List Addr} {G : Hp} {Dn : Ends} (h : WpS X ξ st ρ S P) (s : SimX X ξ m G H S) (r : RepSt X.K m G σ ρ) (i : EndsLe (liftP X.K m G H P) Dn) : tUS X st Dn σ H := (h.run σ H m G s r).mono i
theorem WpB.use {sts : List Stmt} {σ : L2.St} {H : Hp} {m : List Addr} {G : Hp} {Dn : Ends} (h : WpB X ξ sts ρ S P) (s : SimX X ξ m G H S) (r : RepSt X.K m G σ ρ) (i : EndsLe (liftP X.K m G H P) Dn) : tUB X sts Dn σ H := (h.run σ H m G s r).mono i
theorem wb_cons (h : WpS X ξ st ρ S { P with nx := fun ρ' S' => WpB X ξ rest ρ' S' P }) : WpB X ξ (st :: rest) ρ S P :=
  WpB.of (pss_cons (uS st) (uB rest)) fun σ H m G s r => h.use s r
    ⟨fun σ' H' ⟨ρ', S', m', G', q, l, s', r'⟩ => q.use (s.to l s') r' (liftP.le l (fun _ _ z => z) (fun _ _ z => z) (fun _ _ z => z) (fun _ _ z => z)), fun _ _ z => z, fun _ _ z => z, fun _ _ z => z⟩
theorem wb_one (h : WpS X ξ st ρ S P) : WpB X ξ [st] ρ S P := WpB.of (pss_one (uS st)) fun σ H m G s r => h.use s r ⟨fun _ _ z => z, fun _ _ z => z, fun _ _ z => z, fun _ _ z => z⟩
theorem ws_set {x : Str} {pos' : Pos} (i : Nat) (h : WpE X ξ e ρ S fun d S1 => P.nx (ρ.set i (some d)) S1) (hN : X.N.Nodup) (hi : X.N[i]? = some x := by rfl) (hx : Loc X.env.scope x := by first | exact Or.inl rfl | exact Or.inr rfl)
    (hs : swapsWith e (some (.Name x pos')) pos.line X.env = pure false := by rfl) (hf : X.fn x = true ∨ X.env.scope.names.lookup x = some .local := by first | exact .inl rfl | exact .inr rfl | assumption) : WpS X ξ (.Assign [.Name x pos'] e pos) ρ S P :=
  WpS.of (ps_set hN hi hx (uE e) hs hf) fun σ H m G s r => h.use s r fun v d H1 S1 m1 G1 q l1 s1 r1 rs1 => ⟨_, S1, m1, G1, q, l1, s1, rs1.set i r1⟩
theorem ws_ret (h : WpE X ξ e ρ S P.rt) : WpS X ξ (.Return (some e) pos) ρ S P := WpS.of (ps_ret (uE e)) fun σ H m G s r => h.run σ H m G s r
theorem ws_retN (h : P.rt .non S) : WpS X ξ (.Return none pos) ρ S P := WpS.of ps_retN fun σ H m G s r => .mk h (.refl ..) s .non
theorem ws_expr (h : WpE X ξ e ρ S fun _ S1 => P.nx ρ S1) (hs : swapsWith e none pos.line X.env = pure false := by rfl) : WpS X ξ (.Expr e pos) ρ S P :=
  WpS.of (ps_expr (uE e) hs) fun σ H m G s r => h.use s r fun v d H1 S1 m1 G1 q l1 s1 r1 rs1 => ⟨ρ, S1, m1, G1, q, l1, s1, rs1⟩
theorem ws_pass (h : P.nx ρ S) : WpS X ξ (.Pass pos) ρ S P := WpS.of ps_pass fun σ H m G s r => ⟨ρ, S, m, G, h, .refl .., s, r⟩
theorem ws_break (h : P.bk ρ S) : WpS X ξ (.Break pos) ρ S P := WpS.of ps_break fun σ H m G s r => ⟨ρ, S, m, G, h, .refl .., s, r⟩
theorem ws_cont (h : P.ct ρ S) : WpS X ξ (.Continue pos) ρ S P := WpS.of ps_continue fun σ H m G s r => ⟨ρ, S, m, G, h, .refl .., s, r⟩
theorem ws_if {c : Expr} {as bs : List Stmt} (h : WpT X ξ c ρ S fun k S1 => (k = true → WpB X ξ as ρ S1 P) ∧ (k = false → WpB X ξ bs ρ S1 P)) : WpS X ξ (.If c as bs pos) ρ S P :=
  WpS.of (ps_if (uT c) (uB as) (uB bs)) fun σ H m G s r => h.use s r fun k H1 S1 m1 G1 q l1 s1 rs1 => by
    cases k with
    | true => exact iteT ((q.1 rfl).use s1 rs1 (liftP.le l1 (fun _ _ z => z) (fun _ _ z => z) (fun _ _ z => z) (fun _ _ z => z)))
    | false => exact iteF ((q.2 rfl).use s1 rs1 (liftP.le l1 (fun _ _ z => z) (fun _ _ z => z) (fun _ _ z => z) (fun _ _ z => z)))
/-! ### targets -/
theorem wg_name {x : Str} {d : D} {Q : Env → Store → Prop} (i : Nat) (h : Q (ρ.set i (some d)) S) (hN : X.N.Nodup) (hi : X.N[i]? = some x := by rfl) (hx : Loc X.env.scope x := by first | exact Or.inl rfl | exact Or.inr rfl)
    (hf : X.fn x = true ∨ X.env.scope.names.lookup x = some .local := by first | exact .inl rfl | exact .inr rfl | assumption) : WpG X ξ (.Name x pos) d ρ S Q :=
  ⟨fun v σ H m G s r rv pins sh u I ru => (pg_name hN hi hx hf).run pins sh σ H v u _ I ru (show EvS X.K m G H Q _ H from ⟨_, S, m, G, h, .refl .., s, r.set i rv⟩)⟩
/-! ### for -/
/-- over a list that stands still -/
theorem ws_for {tg iter : Expr} {body : List Stmt} (hp : PassesOwn (model X.prog X.w) X.A X.env X.xe) (hc : X.calm = true)
    (h : WpE X ξ iter ρ S fun d S1 => ∃ ds, (d = .lst ds ∨ d = .klst ds) ∧ ∃ I : Nat → Env → Store → Prop, I 0 ρ S1 ∧
      (∀ (i : Nat) (x : D) (ρi : Env) (Si : Store), ds[i]? = some x → I i ρi Si → WpG X ξ tg x ρi Si fun ρ' S' => WpB X ξ body ρ' S' { nx := I (i + 1), ct := I (i + 1), bk := P.nx, rt := P.rt }) ∧ (∀ ρn Sn, I ds.length ρn Sn → P.nx ρn Sn))
    (hs : ∀ x, foldedSetIterable iter X.env x = pure x := by intro _; rfl) : WpS X ξ (.For tg iter body [] pos) ρ S P :=
  WpS.of (ps_for hp hc (pi_list (uE iter)) (uG tg) (uB body) hs) fun σ H m G s r => h.use s r fun v d H1 S1 m1 G1 ⟨ds, ed, Iv, h0, hb, hn⟩ l1 s1 r1 rs1 => by
    obtain ⟨a, vs, e, hq, rv⟩ : ∃ a vs, v = .ref a ∧ SqL X.K G1 a vs ∧ Reps X.K m1 G1 vs ds := by
      rcases ed with rfl | rfl
      · cases r1 with
        | lst h r => exact ⟨_, _, rfl, .of h, r⟩
      · cases r1 with
        | klst h r => exact ⟨_, _, rfl, h, r⟩
    refine ⟨a, e, ⟨vs, sqL_ex s1.toSim hq⟩, for_list (K := X.K) (a := a) (xs := vs) (fun i σ' H' => ∃ ρ' S' m' G', Iv i ρ' S' ∧ Le m1 G1 H1 m' G' H' ∧ Sim X.K m' G' H' S' ∧ RepSt X.K m' G' σ' ρ') ⟨ρ, S1, m1, G1, h0, .refl .., s1, rs1⟩ ?_ ?_ ?_⟩
    · rintro i σ' H' _ ⟨ρ', S', m', G', _, l', s', _⟩
      exact sqL_ex s' (sqL_mono l'.rd hq)
    · rintro i x σ' H' hx ⟨ρ', S', m', G', hi, l', s', r'⟩
      obtain ⟨dx, hdx, rx⟩ := rv.getV hx
      refine (hb i dx ρ' S' hdx hi).use (s1.to l' s') r' (rx.mono l') fun σ2 ρ2 H2 S2 m2 G2 q2 l2 s2 r2 => ?_
      refine q2.use s2 r2 ⟨fun σ3 H3 ⟨ρ3, S3, m3, G3, q3, l3, s3, r3⟩ => ⟨ρ3, S3, m3, G3, q3, (l'.trans l2).trans l3, s3, r3⟩, fun v3 H3 ⟨d3, S3, m3, G3, q3, l3, s3, r3⟩ => ⟨d3, S3, m3, G3, q3, ((l1.trans l').trans l2).trans l3, s3, r3⟩,
        fun σ3 H3 ⟨ρ3, S3, m3, G3, q3, l3, s3, r3⟩ => ⟨ρ3, S3, m3, G3, q3, ((l1.trans l').trans l2).trans l3, s3, r3⟩, fun σ3 H3 ⟨ρ3, S3, m3, G3, q3, l3, s3, r3⟩ => ⟨ρ3, S3, m3, G3, q3, (l'.trans l2).trans l3, s3, r3⟩⟩
    · rintro σ' H' ⟨ρ', S', m', G', hi, l', s', r'⟩
      rw [rv.length] at hi
      exact ⟨ρ', S', m', G', hn _ _ hi, l1.trans l', s', r'⟩
end
end Dl

set_option linter.all false
set_option maxRecDepth 100000
set_option maxHeartbeats 4000000
set_option autoImplicit false
/-! Rules over data: subscripts, slices, iterables, comprehensions, calls, defs. -/
namespace Dl
open PySem L2

/-! ### keys -/
def asKey : D → Option Key
  | .int i => some (.inl i)
  | .str s => some (.inr s)
  | _ => none
theorem Rep.key {K : PySem.W.Frag} {m : List Addr} {G : Hp} {v : V} {d : D} {k : Key} (h : Rep K m G v d) (e : asKey d = some k) : v = kV k := by
  cases h <;> cases e <;> rfl
def valD {κ : Type} [DecidableEq κ] (kvs : List (κ × D)) (k : κ) : Option D := (kvs.find? fun kv => decide (kv.1 = k)).map (·.2)
def putD {κ : Type} [DecidableEq κ] (kvs : List (κ × D)) (k : κ) (v : D) : List (κ × D) := if (kvs.any fun kv => decide (kv.1 = k)) = true then kvs.map (fun kv => if kv.1 = k then (kv.1, v) else kv) else kvs ++ [(k, v)]
def dropD {κ : Type} [DecidableEq κ] (kvs : List (κ × D)) (k : κ) : List (κ × D) := kvs.filter fun kv => decide (kv.1 ≠ k)
section
variable {K : PySem.W.Frag} {m : List Addr} {G : Hp} {κ : Type} [DecidableEq κ]
theorem val_rep : ∀ {ks : List (κ × V)} {kvs : List (κ × D)} (_ : ks.map (·.1) = kvs.map (·.1)) (_ : Reps K m G (ks.map (·.2)) (kvs.map (·.2))) (k : κ),
    (valV ks k = none ∧ valD kvs k = none) ∨ ∃ v d, valV ks k = some v ∧ valD kvs k = some d ∧ Rep K m G v d
  | [], [], _, _, k => .inl ⟨rfl, rfl⟩
  | [], _ :: _, e, _, _ => by cases e
  | _ :: _, [], e, _, _ => by cases e
  | (a, v) :: ks, (b, d) :: kvs, e, r, k => by
    obtain ⟨e1, e2⟩ := List.cons.inj e
    have e1 : a = b := e1
    subst e1
    cases r with
    | cons h t =>
      by_cases q : a = k
      · exact .inr ⟨v, d, valV_pos q, by simp [valD, q], h⟩
      · have := val_rep e2 t k
        rw [valV_neg q, show valD ((a, d) :: kvs) k = valD kvs k by simp [valD, q]]
        exact this
theorem any_rep : ∀ {ks : List (κ × V)} {kvs : List (κ × D)} (_ : ks.map (·.1) = kvs.map (·.1)) (k : κ), (ks.any fun kv => decide (kv.1 = k)) = (kvs.any fun kv => decide (kv.1 = k))
  | [], [], _, k => rfl
  | [], _ :: _, e, _ => by cases e
  | _ :: _, [], e, _ => by cases e
  | (a, v) :: ks, (b, d) :: kvs, e, k => by
    obtain ⟨e1, e2⟩ := List.cons.inj e
    have e1 : a = b := e1
    subst e1
    rw [List.any_cons, List.any_cons, any_rep e2 k]
theorem repl_rep {v : V} {d : D} (h : Rep K m G v d) (k : κ) : ∀ {ks : List (κ × V)} {kvs : List (κ × D)} (_ : ks.map (·.1) = kvs.map (·.1)) (_ : Reps K m G (ks.map (·.2)) (kvs.map (·.2))),
    (ks.map fun kv => if kv.1 = k then (kv.1, v) else kv).map (·.1) = (kvs.map fun kv => if kv.1 = k then (kv.1, d) else kv).map (·.1) ∧ Reps K m G ((ks.map fun kv => if kv.1 = k then (kv.1, v) else kv).map (·.2)) ((kvs.map fun kv => if kv.1 = k then (kv.1, d) else kv).map (·.2))
  | [], [], _, _ => ⟨rfl, .nil⟩
  | [], _ :: _, e, _ => by cases e
  | _ :: _, [], e, _ => by cases e
  | (a, w) :: ks, (b, f) :: kvs, e, r => by
    obtain ⟨e1, e2⟩ := List.cons.inj e
    have e1 : a = b := e1
    subst e1
    cases r with
    | cons h' t =>
      obtain ⟨i1, i2⟩ := repl_rep h k e2 t
      by_cases q : a = k
      · simp only [List.map_cons, q, if_true]
        exact ⟨by rw [i1], .cons h i2⟩
      · simp only [List.map_cons, q, if_false]
        exact ⟨by rw [i1], .cons h' i2⟩
theorem put_rep {v : V} {d : D} (h : Rep K m G v d) (k : κ) {ks : List (κ × V)} {kvs : List (κ × D)} (e : ks.map (·.1) = kvs.map (·.1)) (r : Reps K m G (ks.map (·.2)) (kvs.map (·.2))) :
    (putK ks k v).map (·.1) = (putD kvs k d).map (·.1) ∧ Reps K m G ((putK ks k v).map (·.2)) ((putD kvs k d).map (·.2)) := by
  unfold putK putD
  rw [any_rep e k]
  split
  · exact repl_rep h k e r
  · refine ⟨by simp [e], ?_⟩
    rw [List.map_append, List.map_append]
    exact r.append (.cons h .nil)
theorem drop_rep (k : κ) : ∀ {ks : List (κ × V)} {kvs : List (κ × D)} (_ : ks.map (·.1) = kvs.map (·.1)) (_ : Reps K m G (ks.map (·.2)) (kvs.map (·.2))),
    (dropK ks k).map (·.1) = (dropD kvs k).map (·.1) ∧ Reps K m G ((dropK ks k).map (·.2)) ((dropD kvs k).map (·.2))
  | [], [], _, _ => ⟨rfl, .nil⟩
  | [], _ :: _, e, _ => by cases e
  | _ :: _, [], e, _ => by cases e
  | (a, w) :: ks, (b, f) :: kvs, e, r => by
    obtain ⟨e1, e2⟩ := List.cons.inj e
    have e1 : a = b := e1
    subst e1
    cases r with
    | cons h' t =>
      obtain ⟨i1, i2⟩ := drop_rep k e2 t
      unfold dropK dropD at i1 i2 ⊢
      by_cases q : a = k
      · simp only [List.filter_cons, q, ne_eq, not_true_eq_false, decide_false, Bool.false_eq_true, if_false]
        exact ⟨i1, i2⟩
      · simp only [List.filter_cons, q, ne_eq, not_false_eq_true, decide_true, if_true, List.map_cons]
        exact ⟨by rw [i1], .cons h' i2⟩
theorem len_keys {κ α β : Type} : ∀ {ks : List (κ × α)} {kvs : List (κ × β)}, ks.map (·.1) = kvs.map (·.1) → ks.length = kvs.length := fun {ks kvs} e => by
  have := congrArg List.length e
  simpa using this
end

/-! ### subscripts -/
section
variable {X : Cx} {ξ : XD} {e a b : Expr} {ρ : Env} {S : Store} {Q : D → Store → Prop} {pos p2 : Pos}
theorem ix_dict (hu : X.A.units + 1 < cLine) : IxR X (fun x y H Q => ∃ a v, x = .ref a ∧ DGet H a y (some v) ∧ Q v H) := by
  intro value slice pins s σ H x y v u Q I rx ry ⟨a, v', ex, g, q⟩ hs
  subst ex
  cases rx
  exact PyProof.Rows.tail_any (dict_typeIs I g) PySem.F.slot_dict_getitem.lookup (d_getItem hu I g ry fun w' s' I' rw' => ⟨v', H, I', rw', q⟩) hs
abbrev rIxD (K : PySem.W.Frag) : R2 := fun x y H Q => (rIxL K x y H Q ∨ rIxT K x y H Q ∨ rIxS x y H Q) ∨ (fun (x y : V) (H : Hp) (Q : VK) => ∃ a v, x = .ref a ∧ DGet H a y (some v) ∧ Q v H) x y H Q
theorem rIxD_mono {K : PySem.W.Frag} : ∀ x y H (Q Q' : VK), (∀ v H', Q v H' → Q' v H') → rIxD K x y H Q → rIxD K x y H Q' := fun x y H Q Q' k h => by
  rcases h with (⟨p, xs, i, v, e1, e2, h1, h2, q⟩ | ⟨p, xs, i, v, e1, e2, h1, h2, q⟩ | ⟨z, i, c, e1, e2, h1, h2, q⟩) | ⟨a, v, e1, g, q⟩
  · exact .inl (.inl ⟨p, xs, i, v, e1, e2, h1, h2, k _ _ q⟩)
  · exact .inl (.inr (.inl ⟨p, xs, i, v, e1, e2, h1, h2, k _ _ q⟩))
  · exact .inl (.inr (.inr ⟨z, i, c, e1, e2, h1, h2, k _ _ q⟩))
  · exact .inr ⟨a, v, e1, g, k _ _ q⟩
def dIx (x y : D) (S : Store) (Q : D → Store → Prop) : Prop := match x with
  | .lst ds => ∃ i d, y = .int i ∧ atI ds i = some d ∧ Q d S
  | .klst ds => ∃ i d, y = .int i ∧ atI ds i = some d ∧ Q d S
  | .tup ds => ∃ i d, y = .int i ∧ atI ds i = some d ∧ Q d S
  | .str s => ∃ i c, y = .int i ∧ s.length ≤ sizeLine ∧ atI s.cps.toList i = some c ∧ Q (.str ⟨#[c]⟩) S
  | .dct kvs => ∃ k d, asKey y = some k ∧ valD kvs k = some d ∧ Q d S
  | .cell j => (∃ ds i d, S[j]? = some (.lst ds) ∧ y = .int i ∧ atI ds i = some d ∧ Q d S) ∨ ∃ kvs k d, S[j]? = some (.dct kvs) ∧ asKey y = some k ∧ valD kvs k = some d ∧ Q d S
  | _ => False
theorem atI_rep {K : PySem.W.Frag} {m : List Addr} {G : Hp} {vs : List V} {ds : List D} {i : Int} {d : D} (r : Reps K m G vs ds) (h : atI ds i = some d) : ∃ v, atI vs i = some v ∧ Rep K m G v d := by
  unfold atI at h ⊢
  rw [r.length]
  cases e : ixN ds.length i with
  | none => rw [e] at h; cases h
  | some j =>
    rw [e] at h
    exact r.get h
theorem fits_ix : Fits2 X (rIxD X.K) dIx := by
  intro x y S Q m G H vx vy s rx ry h
  cases x <;> first | exact h.elim | skip
  · obtain ⟨i, c, e, hz, hc, q⟩ := h
    subst e
    exact .inl (.inr (.inr ⟨_, i, c, rx.str_, ry.int_, hz, hc, .mk q (.refl ..) s (.str _)⟩))
  · obtain ⟨i, d, e, hd, q⟩ := h
    subst e
    obtain ⟨p, vs, e, g, h1, r⟩ := rx.tup_ s
    obtain ⟨v, hv, rv⟩ := atI_rep r hd
    exact .inl (.inr (.inl ⟨p, vs, i, v, e, ry.int_, h1, hv, .mk q (.refl ..) s rv⟩))
  · obtain ⟨i, d, e, hd, q⟩ := h
    subst e
    obtain ⟨p, vs, e, g, h1, r⟩ := rx.lst_ s
    obtain ⟨v, hv, rv⟩ := atI_rep r hd
    exact .inl (.inl ⟨p, vs, i, v, e, ry.int_, .of h1, hv, .mk q (.refl ..) s rv⟩)
  · obtain ⟨i, d, e, hd, q⟩ := h
    subst e
    cases rx with
    | klst h1 r =>
      obtain ⟨v, hv, rv⟩ := atI_rep r hd
      exact .inl (.inl ⟨_, _, i, v, rfl, ry.int_, sqL_ex s h1, hv, .mk q (.refl ..) s rv⟩)
  · obtain ⟨k, d, e, hd, q⟩ := h
    obtain ⟨p, ks, e2, g, ek, r⟩ := rx.dct_
    rcases val_rep ek r k with ⟨_, z⟩ | ⟨v, d', z1, z2, rv⟩
    · rw [hd] at z; cases z
    · rw [hd] at z2; cases z2
      exact .inr ⟨p, v, e2, .inl ⟨ks, k, Rd.ex s g, ry.key e, z1.symm⟩, .mk q (.refl ..) s rv⟩
  · obtain ⟨p, e, hp⟩ := rx.cell_
    rcases h with ⟨ds, i, d, hS, ey, hd, q⟩ | ⟨kvs, k, d, hS, ey, hd, q⟩
    · subst ey
      obtain ⟨vs, h1, r⟩ := s.at_ _ _ _ hp hS
      obtain ⟨v, hv, rv⟩ := atI_rep r hd
      exact .inl (.inl ⟨p, vs, i, v, e, ry.int_, .of h1, hv, .mk q (.refl ..) s rv⟩)
    · obtain ⟨ks, h1, ek, r⟩ := s.at_ _ _ _ hp hS
      rcases val_rep ek r k with ⟨_, z⟩ | ⟨v, d', z1, z2, rv⟩
      · rw [hd] at z; cases z
      · rw [hd] at z2; cases z2
        exact .inr ⟨p, v, e, .inl ⟨ks, k, .inl h1, ry.key ey, z1.symm⟩, .mk q (.refl ..) s rv⟩
theorem we_ix (hu : X.A.units + 1 < cLine) (h : WpE X ξ a ρ S fun x S1 => WpE X ξ b ρ S1 fun y S2 => dIx x y S2 Q) (hs : PlainIx b := by exact fun _ _ => rfl) : WpE X ξ (.Subscript a b pos) ρ S Q :=
  WpE.of (pe_ix ((ix_list.or (ix_tup.or ix_str)).or (ix_dict hu)) (uE a) (uE b) hs) fun σ H m G s r => h.use s r fun v d H1 S1 m1 G1 q l1 s1 r1 rs1 => q.use s1 rs1 fun w d2 H2 S2 m2 G2 q2 l2 s2 r2 _ =>
    rIxD_mono _ _ _ _ _ (fun _ _ z => z.back (l1.trans l2)) (fits_ix d d2 S2 Q m2 G2 H2 v w s2 (r1.mono l2) r2 q2)

/-! ### slices -/
def cutD (xs : List D) (lo hi : Option Int) : List D := (xs.drop (HT.sIx xs.length 0 lo)).take (HT.sIx xs.length xs.length hi - HT.sIx xs.length 0 lo)
theorem cut_rep {K : PySem.W.Frag} {m : List Addr} {G : Hp} {vs : List V} {ds : List D} {lo hi : Option Int} (r : Reps K m G vs ds) : Reps K m G (cutV vs lo hi) (cutD ds lo hi) := by
  unfold cutV cutD
  rw [r.length]
  exact (r.drop _).take _
def WpO (X : Cx) (ξ : XD) (e : Option Expr) (ρ : Env) (S : Store) (Q : Option Int → Store → Prop) : Prop := match e with
  | none => Q none S
  | some e => WpE X ξ e ρ S fun d S1 => ∃ i, d = .int i ∧ Q (some i) S1
def tUO (X : Cx) (e : Option Expr) : TO := match e with
  | none => tNoPart
  | some e => tPart (tUE X e)
theorem uO : ∀ e : Option Expr, PO X e (tUO X e)
  | none => po_none
  | some e => po_some (uE e)
theorem WpO.use {e : Option Expr} {σ : L2.St} {H : Hp} {Q : Option Int → Store → Prop} {Q' : Option Int → Hp → Prop} {m : List Addr} {G : Hp} (h : WpO X ξ e ρ S Q) (s : SimX X ξ m G H S) (r : RepSt X.K m G σ ρ)
    (k : ∀ o H' S' m' G', Q o S' → Le m G H m' G' H' → SimX X ξ m' G' H' S' → RepSt X.K m' G' σ ρ → Q' o H') : tUO X e σ H Q' := by
  cases e with
  | none => exact k none H S m G h (.refl ..) s r
  | some e => exact WpE.use (e := e) h s r fun v d H1 S1 m1 G1 ⟨i, e, q⟩ l1 s1 r1 rs1 => ⟨i, (by subst e; exact r1.int_), k _ _ _ _ _ q l1 s1 rs1⟩
def dSl (x : D) (lo hi : Option Int) (S : Store) (Q : D → Store → Prop) : Prop := match x with
  | .lst ds => Q (.lst (cutD ds lo hi)) S
  | .klst ds => Q (.lst (cutD ds lo hi)) S
  | .str z => z.length ≤ sizeLine ∧ Q (.str (cutS z lo hi)) S
  | .tup ds => ¬ (HT.sIx ds.length 0 lo = 0 ∧ HT.sIx ds.length ds.length hi = ds.length) ∧ Q (.tup (cutD ds lo hi)) S
  | _ => False
theorem we_slice {lo hi : Option Expr} (h : WpE X ξ e ρ S fun x S1 => WpO X ξ lo ρ S1 fun l S2 => WpO X ξ hi ρ S2 fun u S3 => dSl x l u S3 Q) : WpE X ξ (.Subscript e (.Slice lo hi none p2) pos) ρ S Q :=
  WpE.of (pe_slice ((sl_list.or sl_str).or sl_tup) (uE e) (uO lo) (uO hi)) fun σ H m G s r => h.use s r fun v d H1 S1 m1 G1 q l1 s1 r1 rs1 => q.use s1 rs1 fun l H2 S2 m2 G2 q2 l2 s2 rs2 => q2.use s2 rs2 fun u H3 S3 m3 G3 q3 l3 s3 rs3 => by
    have r3 := (r1.mono l2).mono l3
    have L := (l1.trans l2).trans l3
    cases d <;> first | exact q3.elim | skip
    · exact .inl (.inr ⟨_, r3.str_, q3.1, .mk q3.2 L s3 (.str _)⟩)
    · obtain ⟨p, vs, e, g, h1, r⟩ := r3.tup_ s3.toSim
      refine .inr ⟨p, vs, e, h1, by rw [r.length]; exact q3.1, fun p' hp => ?_⟩
      obtain ⟨s4, l4⟩ := s3.alloc hp (.tup (cutV vs l u))
      exact .mk q3.2 (L.trans l4) s4 (.tup (.inl (.inl upd_same)) ((cut_rep r).mono l4))
    · obtain ⟨p, vs, e, g, h1, r⟩ := r3.lst_ s3.toSim
      refine .inl (.inl ⟨p, vs, e, .of h1, fun p' hp => ?_⟩)
      obtain ⟨s4, l4⟩ := s3.alloc hp (.lst (cutV vs l u))
      exact .mk q3 (L.trans l4) s4 (.lst upd_same ((cut_rep r).mono l4))
    · cases r3 with
      | klst h1 r =>
        refine .inl (.inl ⟨_, _, rfl, sqL_ex s3.toSim h1, fun p' hp => ?_⟩)
        obtain ⟨s4, l4⟩ := s3.alloc hp (.lst (cutV _ l u))
        exact .mk q3 (L.trans l4) s4 (.lst upd_same ((cut_rep r).mono l4))
end

/-! ### what is walked -/
/-- J yields ds, whatever comes beside -/
def ItD (K : PySem.W.Frag) (J : It) (m : List Addr) (G H : Hp) (ds : List D) : Prop := ∀ m' G' H' S', Le m G H m' G' H' → Sim K m' G' H' S' →
  (∀ i, i < ds.length → J.go i H') ∧ (J.stop ds.length H') ∧ ∀ i x H'', i < ds.length → J.yld i H' x H'' → ∃ d m'' G'', ds[i]? = some d ∧ Le m' G' H' m'' G'' H'' ∧ Sim K m'' G'' H'' S' ∧ Rep K m'' G'' x d
def tUI (X : Cx) (tg iter : Expr) : TI := fun σ H R => ∀ pins s, Inv X pins σ H s → wpAny (model X.prog X.w) X.A (eval iter X.env) (fun v s1 => wpAny (model X.prog X.w) X.A (pyIter v) (PIE X pins σ tg R) X.xe s1) X.xe s
theorem uI {X : Cx} (tg iter : Expr) : PI X tg iter (tUI X tg iter) := ⟨fun pins s _ _ _ I h => h pins s I⟩
structure WpI (X : Cx) (ξ : XD) (tg iter : Expr) (ρ : Env) (S : Store) (Q : List D → Store → Prop) : Prop where run : ∀ σ H m G (R : It → Hp → Prop), SimX X ξ m G H S → RepSt X.K m G σ ρ →
  (∀ J ds S' m' G' H', Q ds S' → Le m G H m' G' H' → Sim X.K m' G' H' S' → ItD X.K J m' G' H' ds → R J H') → tUI X tg iter σ H R
section
variable {X : Cx} {ξ : XD} {tg e : Expr} {ρ : Env} {S : Store} {Q : List D → Store → Prop} {p pos : Pos}
theorem WpI.of {iter : Expr} {wi : TI} (p : PI X tg iter wi) (h : ∀ σ H m G (R : It → Hp → Prop), SimX X ξ m G H S → RepSt X.K m G σ ρ → (∀ J ds S' m' G' H', Q ds S' → Le m G H m' G' H' → Sim X.K m' G' H' S' → ItD X.K J m' G' H' ds → R J H') → wi σ H R) :
    WpI X ξ tg iter ρ S Q := ⟨fun σ H m G R s r k pins sh I => p.run pins sh σ H R I (h σ H m G R s r k)⟩
theorem itD_list {K : PySem.W.Frag} {m : List Addr} {G H : Hp} {a : Addr} {vs : List V} {ds : List D} (h : SqL K G a vs) (hu : ∀ xs H' , SqL K H' a vs → SqL K H' a xs → xs = vs) (r : Reps K m G vs ds) : ItD K (Itl K a) m G H ds := by
  intro m' G' H' S' l s
  have hH := sqL_ex s (sqL_mono l.rd h)
  refine ⟨fun i hi => ?_, ⟨vs, hH, by rw [r.length]; exact Nat.le_refl _⟩, fun i x H'' hi ⟨e, y⟩ => ?_⟩
  · have hv : i < vs.length := by rw [r.length]; exact hi
    exact ⟨vs, vs[i], hH, by simp [hv]⟩
  · subst e
    have hx := y vs hH
    obtain ⟨d, hd, rd⟩ := r.getV hx
    exact ⟨d, m', G', hd, .refl .., s, rd.mono l⟩
theorem itD_list' {K : PySem.W.Frag} {m : List Addr} {G H : Hp} {a : Addr} {vs : List V} {ds : List D} (h : SqL K G a vs) (r : Reps K m G vs ds) : ItD K (Itl K a) m G H ds := by
  intro m' G' H' S' l s
  have hH := sqL_ex s (sqL_mono l.rd h)
  refine ⟨fun i hi => ?_, ⟨vs, hH, by rw [r.length]; exact Nat.le_refl _⟩, fun i x H'' hi ⟨e, y⟩ => ?_⟩
  · have hv : i < vs.length := by rw [r.length]; exact hi
    exact ⟨vs, vs[i], hH, by simp [hv]⟩
  · subst e
    obtain ⟨d, hd, rd⟩ := r.getV (y vs hH)
    exact ⟨d, m', G', hd, .refl .., s, rd.mono l⟩
theorem itD_tup {K : PySem.W.Frag} {m : List Addr} {G H : Hp} {a : Addr} {vs : List V} {ds : List D} (h : SqT K G a vs) (r : Reps K m G vs ds) : ItD K (Itt K a) m G H ds := by
  intro m' G' H' S' l s
  have hH := sqT_ex s (sqT_mono l.rd h)
  refine ⟨fun i hi => ?_, ⟨vs, hH, by rw [r.length]; exact Nat.le_refl _⟩, fun i x H'' hi ⟨e, y⟩ => ?_⟩
  · have hv : i < vs.length := by rw [r.length]; exact hi
    exact ⟨vs, vs[i], hH, by simp [hv]⟩
  · subst e
    obtain ⟨d, hd, rd⟩ := r.getV (y vs hH)
    exact ⟨d, m', G', hd, .refl .., s, rd.mono l⟩
/-- a list that stands still -/
theorem wi_list (h : WpE X ξ e ρ S fun d S1 => ∃ ds, (d = .lst ds ∨ d = .klst ds) ∧ Q ds S1) : WpI X ξ tg e ρ S Q :=
  WpI.of (pi_list (uE e)) fun σ H m G R s r k => h.use s r fun v d H1 S1 m1 G1 ⟨ds, ed, q⟩ l1 s1 r1 rs1 => by
    obtain ⟨a, vs, e, hq, rv⟩ : ∃ a vs, v = .ref a ∧ SqL X.K G1 a vs ∧ Reps X.K m1 G1 vs ds := by
      rcases ed with rfl | rfl
      · cases r1 with
        | lst h r => exact ⟨_, _, rfl, .of h, r⟩
      · cases r1 with
        | klst h r => exact ⟨_, _, rfl, h, r⟩
    exact ⟨a, e, ⟨vs, sqL_ex s1.toSim hq⟩, k _ ds S1 m1 G1 H1 q l1 s1 (itD_list' hq rv)⟩
theorem wi_tup (h : WpE X ξ e ρ S fun d S1 => ∃ ds, d = .tup ds ∧ Q ds S1) : WpI X ξ tg e ρ S Q :=
  WpI.of (pi_tup (uE e)) fun σ H m G R s r k => h.use s r fun v d H1 S1 m1 G1 ⟨ds, ed, q⟩ l1 s1 r1 rs1 => by
    subst ed
    obtain ⟨a, vs, e, hq, hh, rv⟩ := r1.tup_ s1.toSim
    exact ⟨a, e, ⟨vs, hh⟩, k _ ds S1 m1 G1 H1 q l1 s1 (itD_tup hq rv)⟩
def signsD (x : Str) : List D := x.cps.toList.map fun c => .str ⟨#[c]⟩
theorem wi_str (h : WpE X ξ e ρ S fun d S1 => ∃ x, d = .str x ∧ Q (signsD x) S1) : WpI X ξ tg e ρ S Q :=
  WpI.of (pi_str (uE e)) fun σ H m G R s r k => h.use s r fun v d H1 S1 m1 G1 ⟨x, ed, q⟩ l1 s1 r1 rs1 => by
    subst ed
    refine ⟨x, r1.str_, k _ _ S1 m1 G1 H1 q l1 s1 fun m' G' H' S' l s => ?_⟩
    have hl : (signsD x).length = x.cps.size := by simp [signsD]
    refine ⟨fun i hi => by rw [hl] at hi; exact hi, by show x.cps.size ≤ _; rw [hl]; exact Nat.le_refl _, fun i y H'' hi ⟨e, c, hc, ey⟩ => ?_⟩
    subst e ey
    exact ⟨_, m', G', by simp [signsD, hc], .refl .., s, .str _⟩
def rangeD (lo : Int) (n : Nat) : List D := (List.range n).map fun i => .int (lo + (i : Nat))
theorem itD_range {K : PySem.W.Frag} {m : List Addr} {G H : Hp} {lo : Int} {n : Nat} : ItD K (Itr lo n) m G H (rangeD lo n) := fun m' G' H' S' l s => by
  have hl : (rangeD lo n).length = n := by simp [rangeD]
  refine ⟨fun i hi => by rw [hl] at hi; exact hi, by show n ≤ _; rw [hl]; exact Nat.le_refl _, fun i y H'' hi ⟨e, ey⟩ => ?_⟩
  rw [hl] at hi
  subst e ey
  exact ⟨.int (lo + i), m', G', by simp [rangeD, hi], .refl .., s, .int _⟩
theorem wi_range1 {a : Expr} (hm : X.mg "range" = none) (h : WpE X ξ a ρ S fun d S1 => ∃ j : Int, d = .int j ∧ -(2 ^ 62) ≤ j ∧ j < 2 ^ 62 ∧ Q (rangeD 0 j.toNat) S1) (hg : Gl X "range" := by rfl)
    (hs : starEach [a] X.env = [(false, eval a X.env)] := by rfl) (hs' : starEach (a :: []) X.env = (false, eval a X.env) :: starEach [] X.env := by rfl) : WpI X ξ tg (.Call (.Name "range" p) [a] [] pos) ρ S Q :=
  WpI.of (pi_range1 hg hm (pa_cons (uE a) pa_nil hs') hs) fun σ H m G R s r k => h.use s r fun v d H1 S1 m1 G1 ⟨j, ed, h1, h2, q⟩ l1 s1 r1 rs1 => by
    subst ed
    exact ⟨j, by rw [r1.int_], h1, h2, k _ _ S1 m1 G1 H1 q l1 s1 itD_range⟩
theorem wi_range2 {a b : Expr} (hm : X.mg "range" = none) (h : WpE X ξ a ρ S fun d S1 => ∃ i : Int, d = .int i ∧ WpE X ξ b ρ S1 fun d S2 => ∃ j : Int, d = .int j ∧ (-(2 ^ 62) ≤ i ∧ i < 2 ^ 62 ∧ -(2 ^ 62) ≤ j ∧ j < 2 ^ 62) ∧ Q (rangeD i (j - i).toNat) S2) (hg : Gl X "range" := by rfl)
    (hs : starEach [a, b] X.env = [(false, eval a X.env), (false, eval b X.env)] := by rfl) (hs2 : starEach [b] X.env = [(false, eval b X.env)] := by rfl)
    (hs' : starEach (a :: [b]) X.env = (false, eval a X.env) :: starEach [b] X.env := by rfl) (hs'' : starEach (b :: []) X.env = (false, eval b X.env) :: starEach [] X.env := by rfl) : WpI X ξ tg (.Call (.Name "range" p) [a, b] [] pos) ρ S Q :=
  WpI.of (pi_range2 hg hm (pa_cons (uE a) (pa_cons (uE b) pa_nil hs'') hs') hs hs2) fun σ H m G R s r k => h.use s r fun v d H1 S1 m1 G1 ⟨i, ed, q⟩ l1 s1 r1 rs1 => q.use s1 rs1 fun w d2 H2 S2 m2 G2 ⟨j, ed2, hb, q⟩ l2 s2 r2 rs2 => by
    subst ed ed2
    exact ⟨i, j, by rw [r1.int_, r2.int_], hb, k _ _ S2 m2 G2 H2 q (l1.trans l2) s2 itD_range⟩
def enumD (ds : List D) : List D := ds.mapIdx fun i d => .tup [.int (i : Nat), d]
theorem wi_enum {elts : List Expr} {kk : Nat} {tpos : Pos} (hm : X.mg "enumerate" = none) (h : WpE X ξ e ρ S fun d S1 => ∃ ds, (d = .lst ds ∨ d = .klst ds) ∧ Q (enumD ds) S1) (hg : Gl X "enumerate" := by rfl)
    (hs : starEach [e] X.env = [(false, eval e X.env)] := by rfl) (hs' : starEach (e :: []) X.env = (false, eval e X.env) :: starEach [] X.env := by rfl) : WpI X ξ (.Tuple elts kk tpos) (.Call (.Name "enumerate" p) [e] [] pos) ρ S Q :=
  WpI.of (pi_enum hg hm (pa_cons (uE e) pa_nil hs') hs) fun σ H m G R s r k => h.use s r fun v d H1 S1 m1 G1 ⟨ds, ed, q⟩ l1 s1 r1 rs1 => by
    obtain ⟨a, vs, e, hq, rv⟩ : ∃ a vs, v = .ref a ∧ SqL X.K G1 a vs ∧ Reps X.K m1 G1 vs ds := by
      rcases ed with rfl | rfl
      · cases r1 with
        | lst h r => exact ⟨_, _, rfl, .of h, r⟩
      · cases r1 with
        | klst h r => exact ⟨_, _, rfl, h, r⟩
    subst e
    refine ⟨a, vs, rfl, sqL_ex s1.toSim hq, k _ _ S1 m1 G1 H1 q l1 s1 fun m' G' H' S' l s => ?_⟩
    have hl : (enumD ds).length = ds.length := by simp [enumD]
    have hH := sqL_ex s (sqL_mono l.rd hq)
    refine ⟨fun i hi => ?_, ⟨vs, hH, by rw [hl, rv.length]; exact Nat.le_refl _⟩, fun i y H'' hi ⟨T, x, ey, hT, eH, hx⟩ => ?_⟩
    · have hv : i < vs.length := by rw [hl] at hi; rw [rv.length]; exact hi
      exact ⟨vs, vs[i], hH, by simp [hv]⟩
    · subst ey eH
      obtain ⟨d, hd, rd⟩ := rv.getV (hx vs hH)
      obtain ⟨s2, l2⟩ := s.alloc hT (.tup [.int (i : Nat), x])
      exact ⟨.tup [.int (i : Nat), d], m', _, by simp [enumD, hd], l2, s2, .tup (.inl (.inl upd_same)) (.cons (.int _) (.cons ((rd.mono l).mono l2) .nil))⟩
end

/-! ### for, over anything that is walked -/
section
variable {X : Cx} {ξ : XD} {tg iter : Expr} {ρ : Env} {S : Store} {P : Post} {pos : Pos} {body : List Stmt}
theorem ws_forI (hp : PassesOwn (model X.prog X.w) X.A X.env X.xe) (hc : X.calm = true)
    (h : WpI X ξ tg iter ρ S fun ds S1 => ∃ I : Nat → Env → Store → Prop, I 0 ρ S1 ∧
      (∀ (i : Nat) (x : D) (ρi : Env) (Si : Store), ds[i]? = some x → I i ρi Si → WpG X ξ tg x ρi Si fun ρ' S' => WpB X ξ body ρ' S' { nx := I (i + 1), ct := I (i + 1), bk := P.nx, rt := P.rt }) ∧ (∀ ρn Sn, I ds.length ρn Sn → P.nx ρn Sn))
    (hs : ∀ x, foldedSetIterable iter X.env x = pure x := by intro _; rfl) : WpS X ξ (.For tg iter body [] pos) ρ S P :=
  WpS.of (ps_for hp hc (uI tg iter) (uG tg) (uB body) hs) fun σ H m G s r => h.run σ H m G _ s r fun J ds S1 m1 G1 H1 ⟨Iv, h0, hb, hn⟩ l1 s1 hI => by
    have rs1 := r.mono l1
    refine ⟨fun i mm σ' H' => mm = ds.length - i ∧ i ≤ ds.length ∧ ∃ ρ' S' m' G', Iv i ρ' S' ∧ Le m1 G1 H1 m' G' H' ∧ Sim X.K m' G' H' S' ∧ RepSt X.K m' G' σ' ρ', ⟨ds.length, by simp, Nat.zero_le _, ρ, S1, m1, G1, h0, .refl .., s1, rs1⟩, ?_⟩
    rintro i mm σ' H' ⟨rfl, hi, ρ', S', m', G', hv, l', s', r'⟩
    obtain ⟨go, stop, yl⟩ := hI m' G' H' S' l' s'
    by_cases hlt : i < ds.length
    · refine .inr ⟨go i hlt, fun σ'' H'' => ∃ ρ' S' m' G', Iv (i + 1) ρ' S' ∧ Le m1 G1 H1 m' G' H'' ∧ Sim X.K m' G' H'' S' ∧ RepSt X.K m' G' σ'' ρ', fun σ'' H'' q => ⟨ds.length - (i + 1), by omega, rfl, hlt, q⟩, fun x H'' hy => ?_⟩
      obtain ⟨d, m2, G2, hd, l2, s2, r2⟩ := yl i x H'' hlt hy
      refine (hb i d ρ' S' hd hv).use (s.to (l1.trans (l'.trans l2)) s2) (r'.mono l2) r2 fun σ3 ρ3 H3 S3 m3 G3 q3 l3 s3 r3 => ?_
      have L : Le m1 G1 H1 m3 G3 H3 := (l'.trans l2).trans l3
      exact q3.use s3 r3 ⟨fun σ4 H4 ⟨ρ4, S4, m4, G4, q4, l4, s4, r4⟩ => ⟨ρ4, S4, m4, G4, q4, L.trans l4, s4, r4⟩, fun v4 H4 ⟨d4, S4, m4, G4, q4, l4, s4, r4⟩ => ⟨d4, S4, m4, G4, q4, (l1.trans L).trans l4, s4, r4⟩,
        fun σ4 H4 ⟨ρ4, S4, m4, G4, q4, l4, s4, r4⟩ => ⟨ρ4, S4, m4, G4, q4, (l1.trans L).trans l4, s4, r4⟩, fun σ4 H4 ⟨ρ4, S4, m4, G4, q4, l4, s4, r4⟩ => ⟨ρ4, S4, m4, G4, q4, L.trans l4, s4, r4⟩⟩
    · have e : i = ds.length := by omega
      subst e
      exact .inl ⟨stop, ρ', S', m', G', hn _ _ hv, l1.trans l', s', r'⟩
theorem wg_tup {elts : List Expr} {kk n : Nat} {d : D} {Q : Env → Store → Prop} (hc : X.calm = true) {t : TGs} (hp : PGs X elts t)
    (h : ∃ ds, d = .tup ds ∧ ds.length = n ∧ ∀ vs σ H m G, Sim X.K m G H S → RepSt X.K m G σ ρ → Reps X.K m G vs ds → t vs σ H (EvS X.K m G H Q))
    (hn : (assignEach elts X.env).length = n := by rfl) (hst : (assignEach elts X.env).findIdx? (·.1) = none := by rfl) : WpG X ξ (.Tuple elts kk pos) d ρ S Q :=
  ⟨fun v σ H m G s r rv pins sh u I ru => (pg_tup hc hp hn hst).run pins sh σ H v u _ I ru (by
    obtain ⟨ds, e, hl, k⟩ := h
    subst e
    obtain ⟨a, vs, e, g, hh, rr⟩ := rv.tup_ s.toSim
    exact ⟨a, vs, e, hh, by rw [rr.length]; exact hl, k vs σ H m G s r rr⟩)⟩
/-- a, b = a pair -/
theorem wg_tup2 {x y : Str} {px py : Pos} {kk : Nat} {d : D} {Q : Env → Store → Prop} (i j : Nat) (hc : X.calm = true) (hN : X.N.Nodup) (h : ∃ d1 d2, d = .tup [d1, d2] ∧ Q ((ρ.set i (some d1)).set j (some d2)) S)
    (hi : X.N[i]? = some x := by rfl) (hj : X.N[j]? = some y := by rfl) (hx : Loc X.env.scope x := by first | exact Or.inl rfl | exact Or.inr rfl) (hy : Loc X.env.scope y := by first | exact Or.inl rfl | exact Or.inr rfl)
    (hfx : X.fn x = true ∨ X.env.scope.names.lookup x = some .local := by first | exact .inl rfl | exact .inr rfl | assumption) (hfy : X.fn y = true ∨ X.env.scope.names.lookup y = some .local := by first | exact .inl rfl | exact .inr rfl | assumption)
    (hn : (assignEach [.Name x px, .Name y py] X.env).length = 2 := by rfl) (hst : (assignEach [.Name x px, .Name y py] X.env).findIdx? (·.1) = none := by rfl)
    (h1 : (assignEach [.Name x px, .Name y py] X.env).map (·.2) = assign (.Name x px) X.env :: (assignEach [.Name y py] X.env).map (·.2) := by rfl) (h2 : (assignEach [.Name y py] X.env).map (·.2) = assign (.Name y py) X.env :: (assignEach [] X.env).map (·.2) := by rfl) :
    WpG X ξ (.Tuple [.Name x px, .Name y py] kk pos) d ρ S Q := by
  refine wg_tup hc (pgs_cons (pg_name hN hi hx hfx) (pgs_cons (pg_name hN hj hy hfy) pgs_nil h2) h1) ?_ hn hst
  obtain ⟨d1, d2, e, q⟩ := h
  refine ⟨[d1, d2], e, rfl, fun vs σ H m G s r rr => ?_⟩
  cases rr with
  | cons r1 t =>
    cases t with
    | cons r2 t =>
      cases t
      exact ⟨_, _, rfl, _, _, rfl, rfl, ⟨_, S, m, G, q, .refl .., s, (r.set i r1).set j r2⟩⟩
end

/-! ### comprehensions -/
section
variable {X : Cx} {ξ : XD} {elt iter : Expr} {ifs : List Expr} {scope : Scope} {own : List (Str × Nat)} {ρ : Env} {S : Store} {pos : Pos}
abbrev BlkX (X : Cx) (scope : Scope) (s : Shared) (H : Hp) (C : Addr) (cl : List (Str × Addr)) (fp : List Addr) : Cx := X.blk s H scope (compEnvC scope cl C X.env) fp
def tUEB (X : Cx) (scope : Scope) (e : Expr) : TE := fun σ H Q => ∀ s0 H0 C cl fp, tUE (BlkX X scope s0 H0 C cl fp) e σ H Q
theorem uEB (X : Cx) (scope : Scope) (e : Expr) : ∀ (s : Shared) (H : Hp) (C : Addr) (cl : List (Str × Addr)) (fp : List Addr), PE (BlkX X scope s H C cl fp) e (tUEB X scope e) := fun s H C cl fp => ⟨fun pins sh σ H' Q I h => h s H C cl fp pins sh I⟩
def tUTB (X : Cx) (scope : Scope) (ifs : List Expr) : TT := fun σ H Q => ∀ (s0 : Shared) (H0 : Hp) (C : Addr) (cl : List (Str × Addr)) (fp : List Addr) pins s, Inv (BlkX X scope s0 H0 C cl fp) pins σ H s →
  wpAny (model X.prog X.w) X.A (forIn ifs true fun c r => if r = true then do let ok ← isTrue c (BlkX X scope s0 H0 C cl fp).env (eval c (BlkX X scope s0 H0 C cl fp).env); pure (ForInStep.yield ok) else pure (ForInStep.yield r)) (TP (BlkX X scope s0 H0 C cl fp) pins σ Q) (BlkX X scope s0 H0 C cl fp).xe s
theorem uTB (X : Cx) (scope : Scope) (ifs : List Expr) : ∀ (s : Shared) (H : Hp) (C : Addr) (cl : List (Str × Addr)) (fp : List Addr), PTs (BlkX X scope s H C cl fp) ifs (tUTB X scope ifs) := fun s H C cl fp => ⟨fun pins sh σ H' Q I h => h s H C cl fp pins sh I⟩
/-- the clause's tests, over data -/
structure WpIfs (X : Cx) (scope : Scope) (ifs : List Expr) (ρ : Env) (S : Store) (Q : Bool → Store → Prop) : Prop where run : ∀ σ H m G, Sim X.K m G H S → RepSt X.K m G σ ρ → tUTB X scope ifs σ H (EvT X.K m G H Q)
theorem wf_nil {Q : Bool → Store → Prop} (h : Q true S) : WpIfs X scope [] ρ S Q := ⟨fun σ H m G s r s0 H0 C cl fp pins sh I => pts_nil.run pins sh σ H _ I ⟨S, m, G, h, .refl .., s⟩⟩
theorem wf_one {c : Expr} {Q : Bool → Store → Prop} (h : ∀ s0 H0 C cl fp, WpT (BlkX X scope s0 H0 C cl fp) bot c ρ S Q) : WpIfs X scope [c] ρ S Q := ⟨fun σ H m G s r s0 H0 C cl fp pins sh I =>
  (pts_one (uT (X := BlkX X scope s0 H0 C cl fp) c)).run pins sh σ H _ I ((h s0 H0 C cl fp).run σ H m G (Sim.bot s) r)⟩
/-- the one way: I by the turn, what is made so far, the store -/
theorem lc_data {g : TG} {vs : List Nat} {iter tg : Expr} {Q : D → Store → Prop} {Q' : VK} {σ : L2.St} {H : Hp} {m : List Addr} {G : Hp} (s : SimX X ξ m G H S) (r : RepSt X.K m G σ ρ)
    (h : WpI X ξ tg iter ρ S fun ds S1 => ∃ I : Nat → List D → Store → Prop, I 0 [] S1 ∧
      (∀ (i : Nat) (x : D) (acc : List D) (Si : Store), ds[i]? = some x → i < ds.length → I i acc Si → ∀ v σi Hi mi Gi, Sim X.K mi Gi Hi Si → RepSt X.K mi Gi σi (wipeD ρ vs) → Rep X.K mi Gi v x → σi = wipe σ vs →
        g v σi Hi fun σ2 H2 => H2 = Hi ∧ wipe σ2 vs = wipe σ vs ∧ ∃ ρ2, RepSt X.K mi Gi σ2 ρ2 ∧ WpIfs X scope ifs ρ2 Si fun b S3 => (b = true → ∀ s0 H0 C cl fp, WpE (BlkX X scope s0 H0 C cl fp) bot elt ρ2 S3 fun y S4 => acc.length < sizeLine ∧ I (i + 1) (acc ++ [y]) S4) ∧ (b = false → I (i + 1) acc S3)) ∧
      (∀ acc Sn, I ds.length acc Sn → Q (.lst acc) Sn))
    (hg : ∀ v σ H (k k' : L2.St → Hp → Prop), (∀ σ H, k σ H → k' σ H) → g v σ H k → g v σ H k')
    (k : ∀ v d H' S' m' G', Q d S' → Le m G H m' G' H' → Sim X.K m' G' H' S' → Rep X.K m' G' v d → Q' v H') : tLc (tUI X tg iter) g (tUTB X scope ifs) (tUEB X scope elt) vs σ H Q' := by
  refine h.run σ H m G _ s r fun J ds S1 m1 G1 H1 ⟨Iv, h0, hb, hn⟩ l1 s1 hI => fun Dn hD => ?_
  have rs1 := r.mono l1
  have hD0 : Dn ∉ m1 := s1.notcell hD
  have hDG : G1 Dn = none := s1.gfree hD
  obtain ⟨sD, lD⟩ := s1.more hD (.lst [])
  refine ⟨fun i mm H' => mm = ds.length - i ∧ i ≤ ds.length ∧ ∃ acc accV S' m' G', Iv i acc S' ∧ Le m1 G1 H1 m' G' H' ∧ Sim X.K m' G' H' S' ∧ H' Dn = some (.lst accV) ∧ G' Dn = none ∧ Dn ∉ m' ∧ Reps X.K m' G' accV acc,
    ⟨ds.length, by simp, Nat.zero_le _, [], [], S1, m1, G1, h0, lD, sD, upd_same, hDG, hD0, .nil⟩, ?_⟩
  rintro i mm H' ⟨rfl, hi, acc, accV, S', m', G', hv, l', s', hDn, hGn, hmn, racc⟩
  obtain ⟨go, stop, yl⟩ := hI m' G' H' S' l' s'
  by_cases hlt : i < ds.length
  · refine .inr ⟨go i hlt, fun H'' => ∃ acc accV S' m' G', Iv (i + 1) acc S' ∧ Le m1 G1 H1 m' G' H'' ∧ Sim X.K m' G' H'' S' ∧ H'' Dn = some (.lst accV) ∧ G' Dn = none ∧ Dn ∉ m' ∧ Reps X.K m' G' accV acc, fun H'' q => ⟨ds.length - (i + 1), by omega, rfl, hlt, q⟩, fun x H'' hy => ?_⟩
    obtain ⟨d, m2, G2, hd, l2, s2, r2⟩ := yl i x H'' hlt hy
    obtain ⟨hDn2, hGn2, hmn2⟩ := l2.hidden hDn hGn hmn
    have L2' : Le m1 G1 H1 m2 G2 H'' := l'.trans l2
    refine hg _ _ _ _ _ ?_ (hb i d acc S' hd hlt hv x (wipe σ vs) H'' m2 G2 s2 ((rs1.mono L2').wipe vs) r2 rfl)
    rintro σ2 H2 ⟨rfl, hw, ρ2, r3, hf⟩
    refine ⟨hw, fun s0 H0 C cl fp pins sh I => ?_⟩
    refine thn (hf.run σ2 H2 m2 G2 s2 r3 s0 H0 C cl fp pins sh I) ?_
    rintro b sh' ⟨H3, I3, S3, m3, G3, ⟨q1, q2⟩, l3, s3⟩
    obtain ⟨hDn3, hGn3, hmn3⟩ := l3.hidden hDn2 hGn2 hmn2
    have racc3 := (racc.mono l2).mono l3
    refine ⟨H3, I3, ?_⟩
    cases b with
    | false => exact iteF ⟨acc, accV, S3, m3, G3, q2 rfl, L2'.trans l3, s3, hDn3, hGn3, hmn3, racc3⟩
    | true =>
      refine iteT fun s0 H0 C cl fp => ?_
      refine (q1 rfl s0 H0 C cl fp).use (Sim.bot s3) (r3.mono l3) ?_
      rintro w y H4 S4 m4 G4 ⟨hz, hI4⟩ l4 s4 r4 _
      obtain ⟨hDn4, hGn4, hmn4⟩ := l4.hidden hDn3 hGn3 hmn3
      have racc4 := racc3.mono l4
      refine ⟨accV, hDn4, by rw [racc4.length]; exact hz, ?_⟩
      obtain ⟨s5, l5⟩ := s4.side (o := .lst (accV ++ [w])) ((L2'.trans l3).trans l4) hD hGn4 hmn4
      exact ⟨acc ++ [y], accV ++ [w], S4, m4, G4, hI4, l5, s5, upd_same, hGn4, hmn4, racc4.append (.cons r4 .nil)⟩
  · have e : i = ds.length := by omega
    subst e
    refine .inl ⟨stop, ?_⟩
    obtain ⟨s3, l3⟩ := s'.freeze l' hD hDn hGn hmn
    exact k (.ref Dn) (.lst acc) H' S' m' _ (hn _ _ hv) (l1.trans l3) s3 (.lst upd_same (Reps.mono' (fun _ _ h => h) (rd_upd hGn) (ins_upd hGn) racc))
theorem gName_mono {i : Nat} : ∀ v σ H (k k' : L2.St → Hp → Prop), (∀ σ H, k σ H → k' σ H) → gName i v σ H k → gName i v σ H k' := fun _ _ _ _ _ i h => i _ _ h
theorem wipe_set {σ : L2.St} {i : Nat} {x : Option V} : ∀ {vs : List Nat}, i ∈ vs → wipe (σ.set i x) vs = wipe σ vs
  | [], h => by cases h
  | v :: vs, h => by
    unfold wipe
    by_cases e : i ∈ vs
    · rw [wipe_set e]
    · have e2 : i = v := by
        rcases List.mem_cons.mp h with z | z
        · exact z
        · exact absurd z e
      subst e2
      have : ∀ {us : List Nat} {τ : L2.St}, (wipe (τ.set i x) us).set i none = (wipe τ us).set i none := by
        intro us
        induction us with
        | nil => intro τ; show (τ.set i x).set i none = τ.set i none; rw [List.set_set]
        | cons u us ih =>
          intro τ
          unfold wipe
          by_cases q : u = i
          · subst q; rw [List.set_set, List.set_set]; exact ih
          · rw [List.set_comm _ _ q, List.set_comm _ _ q, ih]
      exact this
theorem wipe_get {σ : L2.St} {j : Nat} : ∀ {vs : List Nat}, (wipe σ vs)[j]? = if j ∈ vs ∧ j < σ.length then some none else σ[j]?
  | [] => by simp [wipe]
  | v :: vs => by
    unfold wipe
    by_cases e : v = j
    · subst e
      by_cases hl : v < σ.length
      · rw [List.getElem?_set_self (by rw [wipe_length]; exact hl), if_pos ⟨List.mem_cons_self, hl⟩]
      · rw [List.getElem?_eq_none (by rw [List.length_set, wipe_length]; omega), if_neg (fun z => hl z.2), List.getElem?_eq_none (by omega)]
    · rw [List.getElem?_set_ne e, wipe_get]
      have : (j ∈ v :: vs) ↔ j ∈ vs := by
        rw [List.mem_cons]
        exact ⟨fun h => h.resolve_left (fun z => e z.symm), .inr⟩
      simp only [this]
theorem wipe_wipe {σ : L2.St} {vs : List Nat} : wipe (wipe σ vs) vs = wipe σ vs := by
  apply List.ext_getElem?
  intro j
  rw [wipe_get, wipe_get, wipe_length]
  split
  · rfl
  · rfl
/-- [elt for name in .. if ..]: slot i is the name's -/
theorem we_lc {x : Str} {px : Pos} {Q : D → Store → Prop} (i : Nat) (hc : X.calm = true) (hN : X.N.Nodup) (ok : BlkOk X.N X.env.scope scope own) (hi : X.N[i]? = some x) (hiv : i ∈ own.map (·.2))
    (hx : ∀ (s : Shared) (H : Hp) (C : Addr) (cl : List (Str × Addr)) (fp : List Addr), Loc (BlkX X scope s H C cl fp).env.scope x) (hf : ∀ (s : Shared) (H : Hp) (C : Addr) (cl : List (Str × Addr)) (fp : List Addr), (BlkX X scope s H C cl fp).fn x = true ∨ (BlkX X scope s H C cl fp).env.scope.names.lookup x = some .local)
    (h : WpI X ξ (.Name x px) iter ρ S fun ds S1 => ∃ I : Nat → List D → Store → Prop, I 0 [] S1 ∧
      (∀ (k : Nat) (d : D) (acc : List D) (Si : Store), ds[k]? = some d → k < ds.length → I k acc Si →
        WpIfs X scope ifs ((wipeD ρ (own.map (·.2))).set i (some d)) Si fun b S3 => (b = true → ∀ s0 H0 C cl fp, WpE (BlkX X scope s0 H0 C cl fp) bot elt ((wipeD ρ (own.map (·.2))).set i (some d)) S3 fun y S4 => acc.length < sizeLine ∧ I (k + 1) (acc ++ [y]) S4) ∧ (b = false → I (k + 1) acc S3)) ∧
      (∀ acc Sn, I ds.length acc Sn → Q (.lst acc) Sn)) (hs : ∀ x, foldedSetIterable iter X.env x = pure x := by intro _; rfl) : WpE X ξ (.ListComp elt [⟨.Name x px, iter, ifs, 0⟩] scope pos) ρ S Q :=
  WpE.of (pe_lc (g := gName i) hc hN (uI (.Name x px) iter) ok (fun s H C cl fp => pg_name (X := BlkX X scope s H C cl fp) hN hi (hx s H C cl fp) (hf s H C cl fp)) (uTB X scope ifs) (uEB X scope elt) hs) fun σ H m G s r => by
    refine lc_data s r ⟨fun σ H m G R s r k => h.run σ H m G R s r fun J ds S' m' G' H' ⟨I, h0, hb, hn⟩ => k J ds S' m' G' H' ⟨I, h0, fun k d acc Si hd hl hi2 v σi Hi mi Gi s2 r2 rv e => ?_, hn⟩⟩ gName_mono fun v d H' S' m' G' q l s' r' => .mk q l s' r'
    exact ⟨rfl, by rw [wipe_set hiv, e]; exact wipe_wipe, _, r2.set i rv, hb k d acc Si hd hl hi2⟩
end
end Dl

set_option linter.all false
set_option maxRecDepth 100000
set_option maxHeartbeats 4000000
set_option autoImplicit false
/-! Rules over data: defs and their promises, calls, built-in functions and methods. -/
namespace Dl
open PySem L2

/-! ### promises over data -/
/-- an exception over data: its class, its fields -/
abbrev ExD := Addr → List (Str × D) → Store → Prop
abbrev DSp := List D → Store → (D → Store → Prop) → ExD → Prop
def EvX (K : PySem.W.Frag) (m : List Addr) (G H : Hp) (E : ExD) : XK := fun cls d H' => ∃ C fs S' m' G', cls = .ref C ∧ E C fs S' ∧ Le m G H m' G' H' ∧ Sim K m' G' H' S' ∧ XdAt K m' G' d fs
def lsp (K : PySem.W.Frag) (R : DSp) : Sp := fun vs H Q' E' => ∃ m G S ds Q E, Sim K m G H S ∧ Reps K m G vs ds ∧ R ds S Q E ∧ (∀ v H', EvR K m G H Q v H' → Q' v H') ∧ (∀ C d H', EvX K m G H E C d H' → E' C d H')
/-- the def that the global name x means keeps R -/
def HasFn (P : Program) (w : World) (K : PySem.W.Frag) (mg : Str → Option Value) (base : Heap) (k : Nat) (x : Str) (R : DSp) : Prop :=
  ∃ (f : Addr) (fd : FuncData) (ps : List Str), mg x = some (.ref f) ∧ PySem.W.keepIn K (.ref f) = true ∧ Binds K fd ps [] ∧ FnOk P w K mg base (L2.CX P w) k f fd ps (lsp K R)
/-- a def of the text as the top leaves it -/
structure DefAt (K : PySem.W.Frag) (mg : Str → Option Value) (x qual : Str) (st : Stmt) (ps : List Str) : Prop where
  ex : ∃ (f : Addr) (fd : FuncData), Fun K x qual st f fd ∧ mg x = some (.ref f) ∧ ∀ us : List Value, us.length = ps.length → bindArgs fd ⟨us, []⟩ = pure (ps.zip us)
theorem defAt_mk {K : PySem.W.Frag} {h : Heap} {mg : Str → Option Value} {x qual : Str} {st : Stmt} {ps : List Str} {f : Addr} {oc : Value} {od an : Option Addr} {osl : Array (Option Value)} {kV doc pm cdv ct : Value} (X : K.In h) (G : h.Ns mainGlobals mg)
    (a : PySem.W.nsIn K mainGlobals x = some (some (.ref f))) (l : K.lookup f = some ⟨oc, od, .func (PySem.W.fnOf x qual (defArgs st) (defBody st) (defScope st) .none kV doc pm an cdv ct), osl⟩) (c : PySem.W.codeIn K cdv qual = true) (k : PySem.W.keepIn K (.ref f) = true)
    (b : ∀ (kV doc pm : Value) (an : Option Addr) (cdv ct : Value) (us : List Value), us.length = ps.length → bindArgs (PySem.W.fnOf x qual (defArgs st) (defBody st) (defScope st) .none kV doc pm an cdv ct) ⟨us, []⟩ = pure (ps.zip us)) : DefAt K mg x qual st ps :=
  ⟨f, _, fun_mk l c k, PySem.W.mg_of X G a, b kV doc pm an cdv ct⟩
def startD (N : List Str) (ds : List D) : Env := ds.map some ++ List.replicate (N.length - ds.length) none
theorem startD_rep {K : PySem.W.Frag} {m : List Addr} {G : Hp} {N : List Str} {vs : List V} {ds : List D} (r : Reps K m G vs ds) : RepSt K m G (L2.start N vs) (startD N ds) := by
  have hl := r.length
  refine ⟨by simp [L2.start, startD, hl], fun i d h => ?_⟩
  unfold startD at h
  unfold L2.start
  by_cases hi : i < ds.length
  · rw [List.getElem?_append_left (by simpa using hi), List.getElem?_map] at h
    cases e : ds[i]? with
    | none => rw [e] at h; cases h
    | some d' =>
      rw [e] at h
      cases h
      obtain ⟨v, hv, rv⟩ := r.get e
      exact ⟨v, by rw [List.getElem?_append_left (by simpa [hl] using hi), List.getElem?_map, hv]; rfl, rv⟩
  · rw [List.getElem?_append_right (by simpa using hi), List.getElem?_replicate] at h
    split at h <;> cases h
section
variable {P : Program} {w : World} {K : PySem.W.Frag} {mg : Str → Option Value} {base : Heap}
/-- THE RULE for a def -/
theorem DefAt.fn {x qual : Str} {st : Stmt} {ps N : List Str} {k : Nat} {R : DSp} {f : Addr} {fd : FuncData} (F : Fun K x qual st f fd) (Sc : FnScope N ps (defScope st)) (len : ∀ ds S Q E, R ds S Q E → ds.length = ps.length)
    (body : ∀ (f : Addr) (cdv : Value) (A : Around) (outer : List PySem.Env) (s : Shared) (H : Hp) (E : XK), Room k (A.deeper (PyProof.Rows.envOfC qual (defScope st) s.heap.objs.size f cdv)) → ∀ ds S Q E', R ds S Q E' →
      WpB (cxOf (L2.CX P w) P w K mg base N qual (defScope st) f cdv A outer s H E) (fun C fs _ S' => E' C fs S') (defBody st) (startD N ds) S { nx := fun _ S' => Q .non S', rt := Q }) : FnOk P w K mg base (L2.CX P w) (k + 1) f fd ps (lsp K R) := by
  refine F.okX Sc (fun vs H Q E ⟨m, G, S, ds, Q1, E1, s, r, hR, _⟩ => by rw [r.length]; exact len _ _ _ _ hR) fun cdv A outer s H vs Q E hr ⟨m, G, S, ds, Q1, E1, sm, r, hR, k1, k2⟩ => ?_
  refine ⟨tUB _ _, uB _, (body f cdv A outer s H E hr ds S Q1 E1 hR).use ⟨sm, (takes_of rfl rfl rfl rfl).imp fun cls d σ H' ⟨C, fs, _, S', m', G', e, z, l', s', _, x⟩ => k2 cls d H' ⟨C, fs, S', m', G', e, z, l', s', x⟩⟩ (startD_rep r)
    ⟨fun σ' H' ⟨ρ', S', m', G', q, l, s', r'⟩ => k1 _ _ ⟨.non, S', m', G', q, l, s', .non⟩, fun v H' q => k1 v H' q, fun _ _ ⟨_, _, _, _, q, _⟩ => q.elim, fun _ _ ⟨_, _, _, _, q, _⟩ => q.elim⟩⟩
theorem DefAt.ok {x qual : Str} {st : Stmt} {ps N : List Str} {k : Nat} {R : DSp} (A : DefAt K mg x qual st ps) (Sc : FnScope N ps (defScope st)) (len : ∀ ds S Q E, R ds S Q E → ds.length = ps.length)
    (body : ∀ (f : Addr) (cdv : Value) (A : Around) (outer : List PySem.Env) (s : Shared) (H : Hp) (E : XK), Room k (A.deeper (PyProof.Rows.envOfC qual (defScope st) s.heap.objs.size f cdv)) → ∀ ds S Q E', R ds S Q E' →
      WpB (cxOf (L2.CX P w) P w K mg base N qual (defScope st) f cdv A outer s H E) (fun C fs _ S' => E' C fs S') (defBody st) (startD N ds) S { nx := fun _ S' => Q .non S', rt := Q }) : HasFn P w K mg base (k + 1) x R := by
  obtain ⟨f, fd, F, hm, hb⟩ := A.ex
  exact ⟨f, fd, ps, hm, F.kp, .all hb, DefAt.fn F Sc len body⟩
theorem HasFn.mono {j k : Nat} {x : Str} {R : DSp} (h : HasFn P w K mg base j x R) (l : j ≤ k) : HasFn P w K mg base k x R := by
  obtain ⟨f, fd, ps, a, b, c, d⟩ := h
  exact ⟨f, fd, ps, a, b, c, d.mono l⟩
theorem HasFn.imp {k : Nat} {x : Str} {R R' : DSp} (h : HasFn P w K mg base k x R) (i : ∀ ds S Q E, R' ds S Q E → R ds S Q E) : HasFn P w K mg base k x R' := by
  obtain ⟨f, fd, ps, a, b, c, d⟩ := h
  exact ⟨f, fd, ps, a, b, c, d.imp fun vs H Q E ⟨m, G, S, ds, Q1, E1, s, r, hR, k⟩ => ⟨m, G, S, ds, Q1, E1, s, r, i _ _ _ _ hR, k⟩⟩
end

/-! ### calls of defs -/
section
variable {X : Cx} {ξ : XD} {e : Expr} {es : List Expr} {ρ : Env} {S : Store} {Q : D → Store → Prop} {p pos apos : Pos} {x : Str} {k : Nat} {R : DSp}
theorem we_call (F : HasFn X.prog X.w X.K X.mg X.base k x R) (hr : Room k X.A) (h : WpA X ξ (e :: es) ρ S fun ds S1 => R ds S1 Q fun C fs S' => ξ C fs ρ S') (hg : Gl X x := by rfl) (hdb : (x == ("__debug__" : Str)) = false := by decide)
    (he : starEach (e :: es) X.env = (false, eval e X.env) :: starEach es X.env := by rfl) (hpl : (backTo pos (starEach es X.env)).any (·.1) = false := by rfl) : WpE X ξ (.Call (.Name x p) (e :: es) [] pos) ρ S Q := by
  obtain ⟨f, fd, ps, hm, hk, hb, F⟩ := F
  refine ⟨fun σ H m G s r pins sh I => (pe_callS F hr hg hm hk hb (fun σ => passAt s.xo σ) (uA _) hdb he hpl).run pins sh σ H _ I (h.use s r fun vs ds H1 S1 m1 G1 q l1 s1 r1 rs1 => ?_)⟩
  exact ⟨m1, G1, S1, ds, Q, fun C fs S' => ξ C fs ρ S', s1, r1, q, fun v H' z => z.back l1, fun cls d H' ⟨C, fs, S', m', G', e, z, l', s', x⟩ => ⟨C, fs, ρ, S', m', G', e, z, l1.trans l', s', rs1.mono l', x⟩⟩
theorem we_call0 (F : HasFn X.prog X.w X.K X.mg X.base k x R) (hr : Room k X.A) (h : R [] S Q fun C fs S' => ξ C fs ρ S') (hg : Gl X x := by rfl) (hdb : (x == ("__debug__" : Str)) = false := by decide) : WpE X ξ (.Call (.Name x p) [] [] pos) ρ S Q := by
  obtain ⟨f, fd, ps, hm, hk, hb, F⟩ := F
  refine ⟨fun σ H m G s r pins sh I => ?_⟩
  refine wpAny_Call_Name_kw (ld_glob I hg hm ?_ hdb)
  exact PySem.W.callWith_K0 I.kIn hk (run_fnS (E := WE (EvW X.K m G H ξ)) (us := []) F hr hb (passAt s.xo σ) I .nil ⟨m, G, S, [], Q, fun C fs S' => ξ C fs ρ S', s, .nil, h, fun v H' z => z, fun cls d H' ⟨C, fs, S', m', G', e, z, l', s', x⟩ => ⟨C, fs, ρ, S', m', G', e, z, l', s', r.mono l', x⟩⟩)
def FitsA (X : Cx) (r : List V → Hp → VK → Prop) (f : List D → Store → (D → Store → Prop) → Prop) : Prop := ∀ (ds : List D) (S : Store) (Q : D → Store → Prop) (m : List Addr) (G H : Hp) (vs : List V) (Q' : VK), Sim X.K m G H S → Reps X.K m G vs ds → f ds S Q → (∀ v H', EvR X.K m G H Q v H' → Q' v H') → r vs H Q'
theorem we_callB {id : String} {r : List V → Hp → VK → Prop} {f : List D → Store → (D → Store → Prop) → Prop} (hc : CallR X (.builtin id) r) (hf : FitsA X r f) (hm : X.mg x = none) (h : WpA X ξ (e :: es) ρ S fun ds S1 => f ds S1 Q)
    (hv : bootBuiltins x = some (.builtin id)) (hg : Gl X x := by rfl) (hn : x ≠ "__name__" := by decide) (hdb : (x == ("__debug__" : Str)) = false := by decide)
    (he : starEach (e :: es) X.env = (false, eval e X.env) :: starEach es X.env := by rfl) (hpl : (backTo pos (starEach es X.env)).any (·.1) = false := by rfl) : WpE X ξ (.Call (.Name x p) (e :: es) [] pos) ρ S Q :=
  WpE.of (pe_callB hc hg hm hv (uA _) hn hdb he hpl) fun σ H m G s r => h.use s r fun vs ds H1 S1 m1 G1 q l1 s1 r1 rs1 => hf ds S1 Q m1 G1 H1 vs _ s1 r1 q fun v H' z => z.back l1
theorem we_callTy {T : String} {r : List V → Hp → VK → Prop} {f : List D → Store → (D → Store → Prop) → Prop} (hc : CallR X (.type T) r) (hf : FitsA X r f) (hm : X.mg x = none) (h : WpA X ξ (e :: es) ρ S fun ds S1 => f ds S1 Q)
    (hv : bootBuiltins x = some (.type T)) (hg : Gl X x := by rfl) (hn : x ≠ "__name__" := by decide) (hdb : (x == ("__debug__" : Str)) = false := by decide)
    (he : starEach (e :: es) X.env = (false, eval e X.env) :: starEach es X.env := by rfl) (hpl : (backTo pos (starEach es X.env)).any (·.1) = false := by rfl) : WpE X ξ (.Call (.Name x p) (e :: es) [] pos) ρ S Q :=
  WpE.of (pe_callTy hc hg hm hv (uA _) hn hdb he hpl) fun σ H m G s r => h.use s r fun vs ds H1 S1 m1 G1 q l1 s1 r1 rs1 => hf ds S1 Q m1 G1 H1 vs _ s1 r1 q fun v H' z => z.back l1
/-- len -/
def dLen (ds : List D) (S : Store) (Q : D → Store → Prop) : Prop := match ds with
  | [.str s] => s.length ≤ sizeLine ∧ Q (.int s.length) S
  | [.lst l] => Q (.int l.length) S
  | [.klst l] => Q (.int l.length) S
  | [.tup l] => Q (.int l.length) S
  | [.cell i] => (∃ l, S[i]? = some (.lst l) ∧ Q (.int l.length) S) ∨ ∃ kvs, S[i]? = some (.dct kvs) ∧ Q (.int kvs.length) S
  | _ => False
theorem Reps.one {K : PySem.W.Frag} {m : List Addr} {G : Hp} {vs : List V} {d : D} (r : Reps K m G vs [d]) : ∃ v, vs = [v] ∧ Rep K m G v d := by
  cases r with
  | cons h t => cases t; exact ⟨_, rfl, h⟩
theorem Reps.two {K : PySem.W.Frag} {m : List Addr} {G : Hp} {vs : List V} {d d2 : D} (r : Reps K m G vs [d, d2]) : ∃ v v2, vs = [v, v2] ∧ Rep K m G v d ∧ Rep K m G v2 d2 := by
  cases r with
  | cons h t =>
    obtain ⟨v2, e, h2⟩ := t.one
    subst e
    exact ⟨_, _, rfl, h, h2⟩
abbrev rLenD (K : PySem.W.Frag) : List V → Hp → VK → Prop := fun xs H Q => (∃ x n, xs = [x] ∧ LenV K x H n ∧ Q (.int n) H) ∨ ∃ a kvs, xs = [V.ref a] ∧ H a = some (.dK kvs) ∧ Q (.int kvs.length) H
theorem fits_len : FitsA X (rLenD X.K) dLen := by
  intro ds S Q m G H vs Q' s r h k
  unfold dLen at h
  split at h
  · obtain ⟨v, rfl, r1⟩ := r.one
    rw [r1.str_]; exact .inl ⟨.str _, _, rfl, ⟨h.1, rfl⟩, k _ _ (.mk h.2 (.refl ..) s (.int _))⟩
  · obtain ⟨v, rfl, r1⟩ := r.one
    obtain ⟨a, ws, rfl, g, hh, rr⟩ := r1.lst_ s
    exact .inl ⟨_, ws.length, rfl, .inl ⟨ws, .of hh, rfl⟩, k _ _ (.mk (by rw [rr.length]; exact h) (.refl ..) s (.int _))⟩
  · obtain ⟨v, rfl, r1⟩ := r.one
    cases r1 with
    | klst h1 rr => exact .inl ⟨_, _, rfl, .inl ⟨_, sqL_ex s h1, rfl⟩, k _ _ (.mk (by rw [rr.length]; exact h) (.refl ..) s (.int _))⟩
  · obtain ⟨v, rfl, r1⟩ := r.one
    obtain ⟨a, ws, rfl, g, hh, rr⟩ := r1.tup_ s
    exact .inl ⟨_, ws.length, rfl, .inr ⟨ws, hh, rfl⟩, k _ _ (.mk (by rw [rr.length]; exact h) (.refl ..) s (.int _))⟩
  · obtain ⟨v, rfl, r1⟩ := r.one
    obtain ⟨a, rfl, ha⟩ := r1.cell_
    rcases h with ⟨l, hS, q⟩ | ⟨l, hS, q⟩
    · obtain ⟨ws, hh, rr⟩ := s.at_ _ _ _ ha hS
      exact .inl ⟨_, ws.length, rfl, .inl ⟨ws, .of hh, rfl⟩, k _ _ (.mk (by rw [rr.length]; exact q) (.refl ..) s (.int _))⟩
    · obtain ⟨ws, hh, ek, rr⟩ := s.at_ _ _ _ ha hS
      exact .inr ⟨_, _, rfl, hh, k _ _ (.mk (by rw [len_keys ek]; exact q) (.refl ..) s (.int _))⟩
  · exact h.elim
theorem we_len (hm : X.mg "len" = none) (h : WpA X ξ [e] ρ S fun ds S1 => dLen ds S1 Q) (hg : Gl X "len" := by rfl)
    (he : starEach (e :: []) X.env = (false, eval e X.env) :: starEach [] X.env := by rfl) (hpl : (backTo pos (starEach [] X.env)).any (·.1) = false := by rfl) : WpE X ξ (.Call (.Name "len" p) [e] [] pos) ρ S Q :=
  we_callB (call_len.or call_lenD) fits_len hm h PySem.boot_len hg (by decide) (by decide) he hpl
/-- all(bools) -/
theorem we_all (hc : X.calm = true) (hm : X.mg "all" = none) (h : WpA X ξ [e] ρ S fun ds S1 => ∃ bs : List Bool, ds = [.lst (bs.map .bl)] ∧ Q (.bl (bs.all id)) S1) (hg : Gl X "all" := by rfl)
    (he : starEach (e :: []) X.env = (false, eval e X.env) :: starEach [] X.env := by rfl) (hpl : (backTo pos (starEach [] X.env)).any (·.1) = false := by rfl) : WpE X ξ (.Call (.Name "all" p) [e] [] pos) ρ S Q :=
  we_callB (f := fun ds S1 Q => ∃ bs : List Bool, ds = [.lst (bs.map .bl)] ∧ Q (.bl (bs.all id)) S1) (cr_all hc) (fun ds S Q m G H vs Q' s r ⟨bs, e, q⟩ k => by
    subst e
    obtain ⟨v, rfl, r1⟩ := r.one
    obtain ⟨a, ws, rfl, g, hh, rr⟩ := r1.lst_ s
    rw [rr.bls] at hh
    exact ⟨a, bs, rfl, .of hh, k _ _ (.mk q (.refl ..) s (.bl _))⟩) hm h (by decide +kernel) hg (by decide) (by decide) he hpl
/-- str(an int) -/
theorem we_strI (hm : X.mg "str" = none) (h : WpA X ξ [e] ρ S fun ds S1 => ∃ i : Int, ds = [.int i] ∧ i.natAbs.log2 < 1920 ∧ Q (.str (toString i)) S1) (hg : Gl X "str" := by rfl)
    (he : starEach (e :: []) X.env = (false, eval e X.env) :: starEach [] X.env := by rfl) (hpl : (backTo pos (starEach [] X.env)).any (·.1) = false := by rfl) : WpE X ξ (.Call (.Name "str" p) [e] [] pos) ρ S Q :=
  we_callTy (f := fun ds S1 Q => ∃ i : Int, ds = [.int i] ∧ i.natAbs.log2 < 1920 ∧ Q (.str (toString i)) S1) call_str_int (fun ds S Q m G H vs Q' s r ⟨i, e, hz, q⟩ k => by
    subst e
    obtain ⟨v, rfl, r1⟩ := r.one
    exact ⟨i, by rw [r1.int_], hz, k _ _ (.mk q (.refl ..) s (.str _))⟩) hm h (by decide +kernel) hg (by decide) (by decide) he hpl
/-- isinstance(x, a built-in type) -/
def tyName : D → Option String
  | .non => some "NoneType" | .bl _ => some "bool" | .int _ => some "int" | .str _ => some "str" | .tup _ => some "tuple" | .lst _ => some "list" | .klst _ => some "list" | .dct _ => some "dict"
  | _ => none
theorem Rep.tyX {K : PySem.W.Frag} {m : List Addr} {G H : Hp} {S : Store} {v : V} {d : D} {n : String} (s : Sim K m G H S) (r : Rep K m G v d) (e : tyName d = some n) : TyX K H v (.type n) := by
  cases r <;> cases e
  · exact .base .non
  · exact .base (.bl _)
  · exact .base (.int _)
  · exact .base (.str _)
  · rename_i h _
    rcases sqT_ex s h with (h | ⟨o, h⟩) | ⟨o, its, n, h1, h2, _⟩
    · exact .base (.tup h)
    · exact .fTuple h
    · exact .kTuple h1 h2
  · rename_i h _
    exact .base (.lst (s.ex _ _ h))
  · rename_i h _
    rcases sqL_ex s h with (h | ⟨o, h⟩) | ⟨o, its, n, h1, h2, _⟩
    · exact .base (.lst h)
    · exact .base (.frz h)
    · exact .kList h1 h2
  · rename_i h _ _
    rcases Rd.ex s h with h | ⟨o, h⟩
    · exact .base (.dK h)
    · exact .fDict h
theorem we_isi (hm : X.mg "isinstance" = none) (h : WpA X ξ (e :: es) ρ S fun ds S1 => ∃ d n n' b, ds = [d, .ty n'] ∧ tyName d = some n ∧ kitB n n' = some b ∧ Q (.bl b) S1) (hg : Gl X "isinstance" := by rfl)
    (he : starEach (e :: es) X.env = (false, eval e X.env) :: starEach es X.env := by rfl) (hpl : (backTo pos (starEach es X.env)).any (·.1) = false := by rfl) : WpE X ξ (.Call (.Name "isinstance" p) (e :: es) [] pos) ρ S Q :=
  we_callB (f := fun ds S1 Q => ∃ d n n' b, ds = [d, .ty n'] ∧ tyName d = some n ∧ kitB n n' = some b ∧ Q (.bl b) S1) call_isi (fun ds S Q m G H vs Q' s r ⟨d, n, n', b, e, hn, hb, q⟩ k => by
    subst e
    obtain ⟨v, v2, rfl, r1, r2⟩ := r.two
    cases r2
    exact ⟨v, _, _, _, b, rfl, .ty n', r1.tyX s hn, kit_ty hb, k _ _ (.mk q (.refl ..) s (.bl _))⟩) hm h (by decide +kernel) hg (by decide) (by decide) he hpl

/-! ### methods of texts -/
/-- s.m() -/
theorem we_strM0 {o : Expr} {id : String} {name : Str} {r : V → List V → Hp → VK → Prop} {f : Str → Store → (D → Store → Prop) → Prop} (slot : Slot "str" name id) (ty : typeOf (.builtin id) = pure (.type "method_descriptor")) (rule : MtR X id r)
    (hf : ∀ (z : Str) (S : Store) (Q : D → Store → Prop) (m : List Addr) (G H : Hp) (Q' : VK), Sim X.K m G H S → f z S Q → (∀ v H', EvR X.K m G H Q v H' → Q' v H') → r (.str z) [] H Q')
    (h : WpE X ξ o ρ S fun d S1 => ∃ z, d = .str z ∧ f z S1 Q) (hb : attributeBase o name X.env (eval o X.env) = eval o X.env := by rfl) (hline : (apos.endLine == pos.line) = true := by rfl) :
    WpE X ξ (.Call (.Attribute o name apos) [] [] pos) ρ S Q :=
  WpE.of (pe_bm0 PySem.F.plainAttrs_str slot ty rule (uE o) hb hline) fun σ H m G s r => h.use s r fun v d H1 S1 m1 G1 ⟨z, e, q⟩ l1 s1 r1 rs1 => by
    subst e
    rw [r1.str_]
    exact ⟨rfl, hf z S1 Q m1 G1 H1 _ s1 q fun v H' z => z.back l1⟩
theorem we_upper {o : Expr} (h : WpE X ξ o ρ S fun d S1 => ∃ z, d = .str z ∧ z.length ≤ 5592405 ∧ Q (.str (Txt.upper z)) S1) (hb : attributeBase o "upper" X.env (eval o X.env) = eval o X.env := by rfl) (hline : (apos.endLine == pos.line) = true := by rfl) :
    WpE X ξ (.Call (.Attribute o "upper" apos) [] [] pos) ρ S Q :=
  we_strM0 (f := fun z S1 Q => z.length ≤ 5592405 ∧ Q (.str (Txt.upper z)) S1) PySem.F.slot_str_upper PySem.F.type_str_upper mt_upper (fun z S Q m G H Q' s ⟨hz, q⟩ k => ⟨z, rfl, rfl, hz, k _ _ (.mk q (.refl ..) s (.str _))⟩) h hb hline
theorem we_lower {o : Expr} (h : WpE X ξ o ρ S fun d S1 => ∃ z, d = .str z ∧ z.length ≤ 5592405 ∧ Q (.str (Txt.lower z)) S1) (hb : attributeBase o "lower" X.env (eval o X.env) = eval o X.env := by rfl) (hline : (apos.endLine == pos.line) = true := by rfl) :
    WpE X ξ (.Call (.Attribute o "lower" apos) [] [] pos) ρ S Q :=
  we_strM0 (f := fun z S1 Q => z.length ≤ 5592405 ∧ Q (.str (Txt.lower z)) S1) PySem.F.slot_str_lower PySem.F.type_str_lower mt_lower (fun z S Q m G H Q' s ⟨hz, q⟩ k => ⟨z, rfl, rfl, hz, k _ _ (.mk q (.refl ..) s (.str _))⟩) h hb hline
/-- s.m(e, ..) -/
theorem we_strM {o : Expr} {id : String} {name : Str} {r : V → List V → Hp → VK → Prop} {f : Str → List D → Store → (D → Store → Prop) → Prop} (slot : Slot "str" name id) (ty : typeOf (.builtin id) = pure (.type "method_descriptor")) (rule : MtR X id r)
    (hf : ∀ (z : Str) (ds : List D) (S : Store) (Q : D → Store → Prop) (m : List Addr) (G H : Hp) (vs : List V) (Q' : VK), Sim X.K m G H S → Reps X.K m G vs ds → f z ds S Q → (∀ v H', EvR X.K m G H Q v H' → Q' v H') → r (.str z) vs H Q')
    (h : WpE X ξ o ρ S fun d S1 => ∃ z, d = .str z ∧ WpA X ξ (e :: es) ρ S1 fun ds S2 => f z ds S2 Q) (hb : attributeBase o name X.env (eval o X.env) = eval o X.env := by rfl)
    (hfew : ((backTo pos (starEach (e :: es) X.env)).all (fun x => !x.1) && (backToKw pos (keywordEach [] X.env)).all (fun x => x.1.isSome)
      && decide ((e :: es).length + ([] : List Keyword).length + (if ([] : List Keyword).isEmpty then 0 else 1) < 30)) = true := by rfl)
    (hline : (apos.endLine == pos.line) = true := by rfl) (hs : starEach (e :: es) X.env = (false, eval e X.env) :: starEach es X.env := by rfl) (hplain : (backTo pos (starEach es X.env)).any (·.1) = false := by rfl) :
    WpE X ξ (.Call (.Attribute o name apos) (e :: es) [] pos) ρ S Q :=
  WpE.of (pe_bm PySem.F.plainAttrs_str slot ty rule (uE o) (uA (e :: es)) hb hfew hline hs hplain) fun σ H m G s r => h.use s r fun v d H1 S1 m1 G1 ⟨z, e, q⟩ l1 s1 r1 rs1 => by
    subst e
    rw [r1.str_]
    exact ⟨rfl, q.use s1 rs1 fun vs ds H2 S2 m2 G2 q2 l2 s2 r2 _ => hf z ds S2 Q m2 G2 H2 vs _ s2 r2 q2 fun v H' z => z.back (l1.trans l2)⟩
/-- sep.join(texts) -/
theorem we_join {o a : Expr} (h : WpE X ξ o ρ S fun d S1 => ∃ z, d = .str z ∧ WpA X ξ [a] ρ S1 fun ds S2 => ∃ ys : List Str, (ds = [.lst (ys.map .str)] ∨ ds = [.tup (ys.map .str)]) ∧ (ys.map (·.length)).sum + ys.length * z.length ≤ 16777216 ∧ Q (.str (Txt.join z ys)) S2)
    (hb : attributeBase o "join" X.env (eval o X.env) = eval o X.env := by rfl)
    (hfew : ((backTo pos (starEach [a] X.env)).all (fun x => !x.1) && (backToKw pos (keywordEach [] X.env)).all (fun x => x.1.isSome)
      && decide ([a].length + ([] : List Keyword).length + (if ([] : List Keyword).isEmpty then 0 else 1) < 30)) = true := by rfl)
    (hline : (apos.endLine == pos.line) = true := by rfl) (hs : starEach (a :: []) X.env = (false, eval a X.env) :: starEach [] X.env := by rfl) (hplain : (backTo pos (starEach [] X.env)).any (·.1) = false := by rfl) :
    WpE X ξ (.Call (.Attribute o "join" apos) [a] [] pos) ρ S Q :=
  we_strM (f := fun z ds S2 Q => ∃ ys : List Str, (ds = [.lst (ys.map .str)] ∨ ds = [.tup (ys.map .str)]) ∧ (ys.map (·.length)).sum + ys.length * z.length ≤ 16777216 ∧ Q (.str (Txt.join z ys)) S2) PySem.F.slot_str_join PySem.F.type_str_join mt_join
    (fun z ds S Q m G H vs Q' s r ⟨ys, e, hz, q⟩ k => by
      rcases e with e | e
      · subst e
        obtain ⟨v, rfl, r1⟩ := r.one
        obtain ⟨a, ws, rfl, g, hh, rr⟩ := r1.lst_ s
        rw [rr.strs] at hh
        exact ⟨z, a, ys, rfl, rfl, .inl (.of hh), hz, k _ _ (.mk q (.refl ..) s (.str _))⟩
      · subst e
        obtain ⟨v, rfl, r1⟩ := r.one
        obtain ⟨a, ws, rfl, g, hh, rr⟩ := r1.tup_ s
        rw [rr.strs] at hh
        exact ⟨z, a, ys, rfl, rfl, .inr hh, hz, k _ _ (.mk q (.refl ..) s (.str _))⟩) h hb hfew hline hs hplain
/-! ### in, not in -/
def flatD : D → Bool
  | .non => true | .bl _ => true | .int _ => true | .str _ => true | _ => false
end
end Dl

set_option linter.all false
set_option maxRecDepth 100000
set_option maxHeartbeats 4000000
set_option autoImplicit false
/-! Rules over data: membership, chains. -/
namespace Dl
open PySem L2
/-- == of flat data -/
def eqD : D → D → Bool
  | .non, .non => true
  | .bl a, .bl b => a == b
  | .bl a, .int b => (if a then 1 else 0) == b
  | .int a, .bl b => a == (if b then 1 else 0)
  | .int a, .int b => a == b
  | .str a, .str b => a == b
  | _, _ => false
def inD (x : D) (ds : List D) : Bool := ds.any fun y => eqD y x
section
variable {K : PySem.W.Frag} {m : List Addr} {G H : Hp} {v u : V} {x y : D} {vs : List V} {ds : List D}
theorem Rep.flat (r : Rep K m G v x) (h : flatD x = true) : flatV v = true := by cases r <;> first | rfl | (cases h; done)
theorem Rep.eqV (r : Rep K m G v x) (q : Rep K m G u y) (h : flatD x = true) (h' : flatD y = true) : L2.eqV v u = eqD x y := by
  cases r <;> first | (cases h; done) | (cases q <;> first | (cases h'; done) | rfl)
theorem Reps.flat : ∀ {vs : List V} {ds : List D}, Reps K m G vs ds → ds.all flatD = true → vs.all flatV = true
  | _, _, .nil, _ => rfl
  | _, _, .cons h t, e => by
    rw [List.all_cons, Bool.and_eq_true] at e ⊢
    exact ⟨h.flat e.1, Reps.flat t e.2⟩
theorem Reps.inV (r : Rep K m G v x) (h : flatD x = true) : ∀ {vs : List V} {ds : List D}, Reps K m G vs ds → ds.all flatD = true → L2.inV v vs = inD x ds
  | _, _, .nil, _ => rfl
  | _, _, .cons q t, e => by
    rw [List.all_cons, Bool.and_eq_true] at e
    have := Reps.inV r h t e.2
    unfold L2.inV inD at this ⊢
    rw [List.any_cons, List.any_cons, this, q.eqV r e.1 h]
end
/-- one text within another -/
def inS (x z : Str) : Bool := !(Builtin.Str.occurrences z x 0 z.length 1).isEmpty
theorem inS_sign (c : Nat) (z : Str) : inS ⟨#[c]⟩ z = decide (c ∈ z.cps.toList) := (PySem.StrLaws.found_one z c)
abbrev rInA (K : PySem.W.Frag) (op : Bool) : R2 := fun x y H Q => rIn K op x y H Q ∨ ((fun (x y : V) (H : Hp) (Q : VK) => ∃ i j, x = .str i ∧ y = .str j ∧ Q (.bl (if op then !inS i j else inS i j)) H) x y H Q ∨ (fun (x y : V) (H : Hp) (Q : VK) => ∃ a o, y = .ref a ∧ DGet H a x o ∧ Q (.bl (if op then !o.isSome else o.isSome)) H) x y H Q)
theorem rInA_mono {K : PySem.W.Frag} {n : Bool} : ∀ x y H (Q Q' : VK), (∀ v H', Q v H' → Q' v H') → rInA K n x y H Q → rInA K n x y H Q' := fun x y H Q Q' k h => by
  rcases h with ⟨p, xs, e1, h1, h2, h3, q⟩ | ⟨i, j, e1, e2, q⟩ | ⟨a, o, e1, g, q⟩
  · exact .inl ⟨p, xs, e1, h1, h2, h3, k _ _ q⟩
  · exact .inr (.inl ⟨i, j, e1, e2, k _ _ q⟩)
  · exact .inr (.inr ⟨a, o, e1, g, k _ _ q⟩)
/-- x in y (n: not in) -/
def dIn (n : Bool) (x y : D) (S : Store) (Q : D → Store → Prop) : Prop := match y with
  | .lst ds => flatD x = true ∧ ds.all flatD = true ∧ Q (.bl (if n then !inD x ds else inD x ds)) S
  | .klst ds => flatD x = true ∧ ds.all flatD = true ∧ Q (.bl (if n then !inD x ds else inD x ds)) S
  | .tup ds => flatD x = true ∧ ds.all flatD = true ∧ Q (.bl (if n then !inD x ds else inD x ds)) S
  | .str z => ∃ s, x = .str s ∧ Q (.bl (if n then !inS s z else inS s z)) S
  | .dct kvs => ∃ k, asKey x = some k ∧ Q (.bl (if n then !(valD kvs k).isSome else (valD kvs k).isSome)) S
  | .cell j => (∃ ds, S[j]? = some (.lst ds) ∧ flatD x = true ∧ ds.all flatD = true ∧ Q (.bl (if n then !inD x ds else inD x ds)) S) ∨ ∃ kvs k, S[j]? = some (.dct kvs) ∧ asKey x = some k ∧ Q (.bl (if n then !(valD kvs k).isSome else (valD kvs k).isSome)) S
  | _ => False
section
variable {X : Cx} {ξ : XD} {a b c : Expr} {ρ : Env} {S : Store} {Q : D → Store → Prop} {pos : Pos}
theorem fits_in {n : Bool} : Fits2 X (rInA X.K n) (dIn n) := by
  intro x y S Q m G H vx vy s rx ry h
  have seq : ∀ {a : Addr} {vs : List V} {ds : List D}, (SqL X.K H a vs ∨ SqT X.K H a vs) → Reps X.K m G vs ds → vy = .ref a → flatD x = true → ds.all flatD = true → Q (.bl (if n then !inD x ds else inD x ds)) S → rInA X.K n vx vy H (EvR X.K m G H Q) := fun {a vs ds} hh rr e f1 f2 q =>
    .inl ⟨a, vs, e, hh, rx.flat f1, rr.flat f2, by rw [Reps.inV rx f1 rr f2]; exact .mk q (.refl ..) s (.bl _)⟩
  have dic : ∀ {a : Addr} {ks : List (Key × V)} {kvs : List (Key × D)} {k : Key}, Rd H a (.dK ks) → ks.map (·.1) = kvs.map (·.1) → Reps X.K m G (ks.map (·.2)) (kvs.map (·.2)) → vy = .ref a → asKey x = some k → Q (.bl (if n then !(valD kvs k).isSome else (valD kvs k).isSome)) S → rInA X.K n vx vy H (EvR X.K m G H Q) := fun {a ks kvs k} hh ek rr e ex q => by
    refine .inr (.inr ⟨a, valV ks k, e, .inl ⟨ks, k, hh, rx.key ex, rfl⟩, ?_⟩)
    have : (valV ks k).isSome = (valD kvs k).isSome := by
      rcases val_rep ek rr k with ⟨z1, z2⟩ | ⟨v, d, z1, z2, _⟩
      · rw [z1, z2]; rfl
      · rw [z1, z2]; rfl
    rw [this]
    exact .mk q (.refl ..) s (.bl _)
  cases y <;> first | exact h.elim | skip
  · obtain ⟨z, e, q⟩ := h
    subst e
    exact .inr (.inl ⟨_, _, rx.str_, ry.str_, .mk q (.refl ..) s (.bl _)⟩)
  · obtain ⟨f1, f2, q⟩ := h
    obtain ⟨p, vs, e, g, h1, r⟩ := ry.tup_ s
    exact seq (.inr h1) r e f1 f2 q
  · obtain ⟨f1, f2, q⟩ := h
    obtain ⟨p, vs, e, g, h1, r⟩ := ry.lst_ s
    exact seq (.inl (.of h1)) r e f1 f2 q
  · obtain ⟨f1, f2, q⟩ := h
    cases ry with
    | klst h1 r => exact seq (.inl (sqL_ex s h1)) r rfl f1 f2 q
  · obtain ⟨k, ex, q⟩ := h
    obtain ⟨p, ks, e2, g, ek, r⟩ := ry.dct_
    exact dic (Rd.ex s g) ek r e2 ex q
  · obtain ⟨p, e, hp⟩ := ry.cell_
    rcases h with ⟨ds, hS, f1, f2, q⟩ | ⟨kvs, k, hS, ex, q⟩
    · obtain ⟨vs, h1, r⟩ := s.at_ _ _ _ hp hS
      exact seq (.inl (.of h1)) r e f1 f2 q
    · obtain ⟨ks, h1, ek, r⟩ := s.at_ _ _ _ hp hS
      exact dic (.inl h1) ek r e ex q
theorem op_din (hu : X.A.units + 1 < cLine) : OpR X (compareOp .In) (fun x y H Q => ∃ a o, y = .ref a ∧ DGet H a x o ∧ Q (.bl (if false then !o.isSome else o.isSome)) H) := by
  intro pins s σ H x y v u Q I rx ry ⟨a, o, e, g, q⟩
  subst e
  cases ry
  exact d_in hu I g rx fun s' I' => ⟨.bl _, H, I', rfl, q⟩
theorem op_dnotin (hu : X.A.units + 1 < cLine) : OpR X (compareOp .NotIn) (fun x y H Q => ∃ a o, y = .ref a ∧ DGet H a x o ∧ Q (.bl (if true then !o.isSome else o.isSome)) H) := by
  intro pins s σ H x y v u Q I rx ry ⟨a, o, e, g, q⟩
  subst e
  cases ry
  exact d_notIn hu I g rx fun s' I' => ⟨.bl _, H, I', rfl, q⟩
theorem we_in (hu : X.A.units + 1 < cLine) (h : WpE X ξ a ρ S fun x S1 => WpE X ξ b ρ S1 fun y S2 => dIn false x y S2 Q) (hm : behindInMarks .In b = false := by rfl) : WpE X ξ (.Compare a [.In] [b] pos) ρ S Q :=
  we_cmp (op_in_seq.or (op_in_str.or (op_din hu))) rInA_mono fits_in h hm
theorem we_nin (hu : X.A.units + 1 < cLine) (h : WpE X ξ a ρ S fun x S1 => WpE X ξ b ρ S1 fun y S2 => dIn true x y S2 Q) (hm : behindInMarks .NotIn b = false := by rfl) : WpE X ξ (.Compare a [.NotIn] [b] pos) ρ S Q :=
  we_cmp (op_notIn_seq.or (L2.op_notIn_str.or (op_dnotin hu))) rInA_mono fits_in h hm
theorem wt_in {Q : Bool → Store → Prop} (hu : X.A.units + 1 < cLine) (h : WpE X ξ a ρ S fun x S1 => WpE X ξ b ρ S1 fun y S2 => dIn false x y S2 fun d S3 => ∃ k, d = .bl k ∧ Q k S3) (hm : behindInMarks .In b = false := by rfl) : WpT X ξ (.Compare a [.In] [b] pos) ρ S Q :=
  wt_cmp (op_in_seq.or (op_in_str.or (op_din hu))) rInA_mono fits_in h hm
theorem wt_nin {Q : Bool → Store → Prop} (hu : X.A.units + 1 < cLine) (h : WpE X ξ a ρ S fun x S1 => WpE X ξ b ρ S1 fun y S2 => dIn true x y S2 fun d S3 => ∃ k, d = .bl k ∧ Q k S3) (hm : behindInMarks .NotIn b = false := by rfl) : WpT X ξ (.Compare a [.NotIn] [b] pos) ρ S Q :=
  wt_cmp (op_notIn_seq.or (L2.op_notIn_str.or (op_dnotin hu))) rInA_mono fits_in h hm
/-- i op j op' k of ints -/
theorem we_chain {op op' : CmpOp} {g g' : Int → Int → Bool} (ho : OpR X (compareOp op) (rI0 fun i j => .bl (g i j))) (ho' : OpR X (compareOp op') (rI0 fun i j => .bl (g' i j)))
    (h : WpE X ξ a ρ S fun x S1 => WpE X ξ b ρ S1 fun y S2 => ∃ i j, x = .int i ∧ y = .int j ∧ (g i j = true → WpE X ξ c ρ S2 fun z S3 => ∃ k, z = .int k ∧ Q (.bl (g' j k)) S3) ∧ (g i j = false → Q (.bl false) S2))
    (hm : lastMarks [op, op'] [b, c] = false := by with_unfolding_all rfl) : WpE X ξ (.Compare a [op, op'] [b, c] pos) ρ S Q :=
  WpE.of (pe_chain ho ho' (uE a) (uE b) (uE c) hm) fun σ H m G s r => h.use s r fun v d H1 S1 m1 G1 q l1 s1 r1 rs1 => q.use s1 rs1 fun w d2 H2 S2 m2 G2 ⟨i, j, e1, e2, q1, q2⟩ l2 s2 r2 rs2 => by
    subst e1 e2
    refine ⟨i, j, r1.int_, r2.int_, g i j, rfl, ?_⟩
    cases e : g i j with
    | true => exact iteT ((q1 e).use s2 rs2 fun z d3 H3 S3 m3 G3 ⟨k, e3, q3⟩ l3 s3 r3 _ => by
        subst e3
        exact ⟨j, k, r2.int_, r3.int_, .mk q3 ((l1.trans l2).trans l3) s3 (.bl _)⟩)
    | false => exact iteF (.mk (q2 e) (l1.trans l2) s2 (.bl _))
theorem wt_chain {op op' : CmpOp} {g g' : Int → Int → Bool} {Q : Bool → Store → Prop} (ho : OpR X (compareOp op) (rI0 fun i j => .bl (g i j))) (ho' : OpR X (compareOp op') (rI0 fun i j => .bl (g' i j)))
    (h : WpE X ξ a ρ S fun x S1 => WpE X ξ b ρ S1 fun y S2 => ∃ i j, x = .int i ∧ y = .int j ∧ (g i j = true → WpE X ξ c ρ S2 fun z S3 => ∃ k, z = .int k ∧ Q (g' j k) S3) ∧ (g i j = false → Q false S2))
    (hm : lastMarks [op, op'] [b, c] = false := by with_unfolding_all rfl) : WpT X ξ (.Compare a [op, op'] [b, c] pos) ρ S Q :=
  WpT.of (pt_chain ho ho' (uE a) (uE b) (uE c) hm) fun σ H m G s r => h.use s r fun v d H1 S1 m1 G1 q l1 s1 r1 rs1 => q.use s1 rs1 fun w d2 H2 S2 m2 G2 ⟨i, j, e1, e2, q1, q2⟩ l2 s2 r2 rs2 => by
    subst e1 e2
    refine ⟨i, j, r1.int_, r2.int_, g i j, rfl, ?_⟩
    cases e : g i j with
    | true => exact iteT ((q1 e).use s2 rs2 fun z d3 H3 S3 m3 G3 ⟨k, e3, q3⟩ l3 s3 r3 _ => by
        subst e3
        exact ⟨j, k, r2.int_, r3.int_, _, rfl, S3, m3, G3, q3, (l1.trans l2).trans l3, s3⟩)
    | false => exact iteF ⟨_, rfl, S2, m2, G2, q2 e, l1.trans l2, s2⟩
end
end Dl

set_option linter.all false
set_option maxRecDepth 100000
set_option maxHeartbeats 4000000
set_option autoImplicit false
/-! Rules over data: dict displays. -/
namespace Dl
open PySem L2
def keyD : Key → D
  | .inl i => .int i
  | .inr s => .str s
theorem Rep.ofKey {K : PySem.W.Frag} {m : List Addr} {G : Hp} {v : V} {k : Key} (h : Rep K m G v (keyD k)) : v = kV k := by
  cases k with
  | inl i => exact h.int_
  | inr s => exact h.str_
def mergeD (kvs more : List (Key × D)) : List (Key × D) := more.foldl (fun acc kv => putD acc kv.1 kv.2) kvs
def WpPairs (X : Cx) (ξ : XD) : List (Option Expr) → List Expr → Env → Store → (List (D × D) → Store → Prop) → Prop
  | some k :: ks, v :: vs, ρ, S, Q => WpE X ξ k ρ S fun x S1 => WpE X ξ v ρ S1 fun y S2 => WpPairs X ξ ks vs ρ S2 fun ps S3 => Q ((x, y) :: ps) S3
  | _, _, _, S, Q => Q [] S
def trsOf (X : Cx) : List (Option Expr) → List Expr → List (TE × TE)
  | some k :: ks, v :: vs => (tUE X k, tUE X v) :: trsOf X ks vs
  | _, _ => []
theorem pps_all {X : Cx} {pos : Pos} : ∀ {keys : List (Option Expr)} {values : List Expr}, keys.all (·.isSome) = true → keys.length = values.length → PPs X pos keys values (trsOf X keys values)
  | [], [], _, _ => pps_nil
  | [], _ :: _, _, h => by cases h
  | _ :: _, [], _, h => by cases h
  | none :: _, _ :: _, h, _ => by cases h
  | some k :: ks, v :: vs, h, hl => pps_cons (uE k) (uE v) (pps_all (by simpa using h) (by simpa using hl))
section
variable {X : Cx} {ξ : XD} {ρ : Env} {S : Store} {pos : Pos}
inductive RepPs (K : PySem.W.Frag) (m : List Addr) (G : Hp) : List (V × V) → List (D × D) → Prop
  | nil : RepPs K m G [] []
  | cons {x y : V} {d e : D} {vs : List (V × V)} {ds : List (D × D)} (h : Rep K m G x d) (h' : Rep K m G y e) (t : RepPs K m G vs ds) : RepPs K m G ((x, y) :: vs) ((d, e) :: ds)
theorem RepPs.mono {K : PySem.W.Frag} {m m' : List Addr} {G G' H H' : Hp} (l : Le m G H m' G' H') : ∀ {vs : List (V × V)} {ds : List (D × D)}, RepPs K m G vs ds → RepPs K m' G' vs ds
  | _, _, .nil => .nil
  | _, _, .cons h h' t => .cons (h.mono l) (h'.mono l) (t.mono l)
theorem pairs_use {σ : L2.St} : ∀ {keys : List (Option Expr)} {values : List Expr} {S : Store} {Q : List (D × D) → Store → Prop} {Q' : List (V × V) → Hp → Prop} {H : Hp} {m : List Addr} {G : Hp} (_ : WpPairs X ξ keys values ρ S Q) (_ : SimX X ξ m G H S) (_ : RepSt X.K m G σ ρ)
    (_ : ∀ vs ds H' S' m' G', Q ds S' → Le m G H m' G' H' → SimX X ξ m' G' H' S' → RepPs X.K m' G' vs ds → Q' vs H'), tPairs (trsOf X keys values) σ H Q'
  | [], values, S, Q, Q', H, m, G, h, s, r, k => by
    have h : Q [] S := by cases values <;> exact h
    cases values <;> exact k [] [] H S m G h (.refl ..) s .nil
  | none :: ks, [], S, Q, Q', H, m, G, h, s, r, k => k [] [] H S m G h (.refl ..) s .nil
  | none :: ks, v :: vs, S, Q, Q', H, m, G, h, s, r, k => k [] [] H S m G h (.refl ..) s .nil
  | some _ :: ks, [], S, Q, Q', H, m, G, h, s, r, k => k [] [] H S m G h (.refl ..) s .nil
  | some e :: ks, v :: vs, S, Q, Q', H, m, G, h, s, r, k => WpE.use h s r fun x d H1 S1 m1 G1 q l1 s1 r1 rs1 => q.use s1 rs1 fun y d2 H2 S2 m2 G2 q2 l2 s2 r2 rs2 =>
    pairs_use q2 s2 rs2 fun ws ds H3 S3 m3 G3 q3 l3 s3 r3 => k _ _ H3 S3 m3 G3 q3 ((l1.trans l2).trans l3) s3 (.cons ((r1.mono l2).mono l3) (r2.mono l3) r3)
theorem RepPs.keys {K : PySem.W.Frag} {m : List Addr} {G : Hp} : ∀ {vs : List (V × V)} {kvs : List (Key × D)}, RepPs K m G vs (kvs.map fun kv => (keyD kv.1, kv.2)) →
    ∃ ks : List (Key × V), vs = ks.map (fun kv => (kV kv.1, kv.2)) ∧ ks.map (·.1) = kvs.map (·.1) ∧ Reps K m G (ks.map (·.2)) (kvs.map (·.2))
  | _, [], h => by cases h; exact ⟨[], rfl, rfl, .nil⟩
  | _, (k, d) :: r, h => by
    cases h with
    | cons h1 h2 t =>
      obtain ⟨ks, e, e2, rr⟩ := RepPs.keys (kvs := r) t
      subst e
      have := h1.ofKey
      subst this
      exact ⟨(k, _) :: ks, rfl, by simp [e2], .cons h2 rr⟩
theorem merge_rep {K : PySem.W.Frag} {m : List Addr} {G : Hp} : ∀ {mk : List (Key × V)} {md : List (Key × D)} {ks : List (Key × V)} {kvs : List (Key × D)}, mk.map (·.1) = md.map (·.1) → Reps K m G (mk.map (·.2)) (md.map (·.2)) → ks.map (·.1) = kvs.map (·.1) → Reps K m G (ks.map (·.2)) (kvs.map (·.2)) →
    (mergeK ks mk).map (·.1) = (mergeD kvs md).map (·.1) ∧ Reps K m G ((mergeK ks mk).map (·.2)) ((mergeD kvs md).map (·.2))
  | [], [], ks, kvs, _, _, e, r => ⟨e, r⟩
  | [], _ :: _, _, _, e, _, _, _ => by cases e
  | _ :: _, [], _, _, e, _, _, _ => by cases e
  | (a, v) :: mk, (b, d) :: md, ks, kvs, e, r, e2, r2 => by
    obtain ⟨h1, h2⟩ := List.cons.inj e
    have h1 : a = b := h1
    subst h1
    cases r with
    | cons h t =>
      obtain ⟨p1, p2⟩ := put_rep h a e2 r2
      exact merge_rep (mk := mk) (md := md) (ks := putK ks a v) (kvs := putD kvs a d) h2 t p1 p2
theorem we_dict {keys : List (Option Expr)} {values : List Expr} {Q : D → Store → Prop} (h : WpPairs X ξ keys values ρ S fun ps S1 => ∃ kvs : List (Key × D), ps = kvs.map (fun kv => (keyD kv.1, kv.2)) ∧ kvs.length ≤ 15 ∧ Q (.dct (mergeD [] kvs)) S1)
    (hall : keys.all (·.isSome) = true := by rfl) (hl : keys.length = values.length := by rfl) (h0 : keys ≠ [] := by (intro z; cases z)) (h15 : keys.length ≤ 15 := by decide) : WpE X ξ (.Dict keys values pos) ρ S Q :=
  WpE.of (pe_disp (pps_all hall hl) hall hl h0 h15) fun σ H m G s r p hp => by
    obtain ⟨s1, l1⟩ := s.more hp (.dK [])
    have hm := s.notcell hp
    have hg := s.gfree hp
    refine pairs_use h (s.to l1 s1) (r.mono l1) ?_
    rintro vs ds H2 S2 m2 G2 ⟨kvs, e, hlen, q⟩ l2 s2 r2
    subst e
    obtain ⟨hp2, hg2, hm2⟩ := l2.hidden (p := p) upd_same hg hm
    obtain ⟨ks, e, ek, rr⟩ := RepPs.keys r2
    refine ⟨hp2, ks, e, by rw [len_keys ek]; exact hlen, ?_⟩
    obtain ⟨p1, p2⟩ := merge_rep ek rr (ks := []) (kvs := []) rfl .nil
    obtain ⟨s3, l3⟩ := s2.side (o := .dK (mergeK [] ks)) (l1.trans l2) hp hg2 hm2
    obtain ⟨s4, l4⟩ := s3.freeze l3 hp upd_same hg2 hm2
    exact .mk q l4 s4 (.dct (.inl upd_same) p1 (Reps.mono' (fun _ _ h => h) (rd_upd hg2) (ins_upd hg2) p2))
theorem we_dict0 {Q : D → Store → Prop} (h : Q (.dct []) S) : WpE X ξ (.Dict [] [] pos) ρ S Q :=
  WpE.of pe_dnewK fun σ H m G s r p hp => by
    obtain ⟨s1, l1⟩ := s.alloc hp (.dK [])
    exact .mk h l1 s1 (.dct (ks := []) (.inl upd_same) rfl .nil)
theorem we_dict0C {Q : D → Store → Prop} (h : Q (.cell S.length) (S ++ [.dct []])) : WpE X ξ (.Dict [] [] pos) ρ S Q :=
  WpE.of pe_dnewK fun σ H m G s r p hp => by
    obtain ⟨s1, l1⟩ := s.newCell (c := .dct []) hp ⟨[], upd_same, rfl, .nil⟩
    exact .mk h l1 s1 (.cell (by rw [← s.len, get_snoc]))
end
end Dl

set_option linter.all false
set_option maxRecDepth 100000
set_option maxHeartbeats 4000000
set_option autoImplicit false
/-! plain helps: picks by a computed index; texts that are all right -/
namespace Dl
open PySem L2
theorem atI_in {α : Type} {xs : List α} {i : Int} (h0 : 0 ≤ i) (h1 : i < xs.length) : ∃ x, atI xs i = some x ∧ x ∈ xs ∧ xs[i.toNat]? = some x := by
  have hn : i.toNat < xs.length := by omega
  refine ⟨xs[i.toNat], ?_, List.getElem_mem hn, by simp [hn]⟩
  unfold atI ixN
  rw [if_pos h0, if_pos h1]
  simp [hn]
theorem pick_lst {ds : List D} {i : Int} {S : Store} {Q : D → Store → Prop} (P : D → Prop) (h0 : 0 ≤ i) (h1 : i < ds.length) (hP : ∀ d ∈ ds, P d) (k : ∀ d, P d → Q d S) : dIx (.lst ds) (.int i) S Q := by
  obtain ⟨x, e, hm, _⟩ := atI_in (xs := ds) h0 h1
  exact ⟨i, x, rfl, e, k x (hP x hm)⟩
theorem pick_klst {ds : List D} {i : Int} {S : Store} {Q : D → Store → Prop} (P : D → Prop) (h0 : 0 ≤ i) (h1 : i < ds.length) (hP : ∀ d ∈ ds, P d) (k : ∀ d, P d → Q d S) : dIx (.klst ds) (.int i) S Q := by
  obtain ⟨x, e, hm, _⟩ := atI_in (xs := ds) h0 h1
  exact ⟨i, x, rfl, e, k x (hP x hm)⟩
theorem pick_tup {ds : List D} {i : Int} {S : Store} {Q : D → Store → Prop} (P : D → Prop) (h0 : 0 ≤ i) (h1 : i < ds.length) (hP : ∀ d ∈ ds, P d) (k : ∀ d, P d → Q d S) : dIx (.tup ds) (.int i) S Q := by
  obtain ⟨x, e, hm, _⟩ := atI_in (xs := ds) h0 h1
  exact ⟨i, x, rfl, e, k x (hP x hm)⟩
theorem pick_str {s : Str} {i : Int} {S : Store} {Q : D → Store → Prop} (h0 : 0 ≤ i) (h1 : i < s.length) (hz : s.length ≤ sizeLine) (k : ∀ c, c ∈ s.cps.toList → Q (.str ⟨#[c]⟩) S) : dIx (.str s) (.int i) S Q := by
  obtain ⟨x, e, hm, _⟩ := atI_in (xs := s.cps.toList) h0 (by simpa [Str.length] using h1)
  exact ⟨i, x, rfl, hz, e, k x hm⟩
theorem all_lst {P : D → Prop} {d : D} {ds : List D} (h : P d) (t : ∀ x ∈ ds, P x) : ∀ x ∈ d :: ds, P x := fun x hx => by
  rcases List.mem_cons.mp hx with e | e
  · subst e; exact h
  · exact t x e
theorem all_nil {P : D → Prop} : ∀ x ∈ ([] : List D), P x := fun x h => by cases h
/-! ### texts that are all right: codes below 0x110000 -/
def OkS (s : Str) : Prop := ∀ c ∈ s.cps.toList, c < 0x110000
theorem OkS.ok {s : Str} (h : OkS s) : PyData.strOk s = true := by
  unfold PyData.strOk
  rw [← Array.all_toList]
  exact List.all_eq_true.mpr fun c hc => decide_eq_true (h c hc)
theorem OkS.of {s : Str} (h : PyData.strOk s = true) : OkS s := fun c hc => by
  unfold PyData.strOk at h
  rw [← Array.all_toList] at h
  exact of_decide_eq_true (List.all_eq_true.mp h c hc)
theorem OkS.sign {s : Str} (h : OkS s) {c : Nat} (hc : c ∈ s.cps.toList) : OkS ⟨#[c]⟩ := fun x hx => by
  have : x = c := by simpa using hx
  subst this; exact h _ hc
theorem OkS.app {s t : Str} (h : OkS s) (g : OkS t) : OkS (s ++ t) := fun c hc => by
  have e : (s ++ t).cps.toList = s.cps.toList ++ t.cps.toList := by
    show (s.cps ++ t.cps).toList = _
    simp
  rw [e] at hc
  rcases List.mem_append.mp hc with q | q
  · exact h c q
  · exact g c q
theorem OkS.empty : OkS Str.empty := fun c hc => by
  have : c ∈ ([] : List Nat) := hc
  cases this
theorem OkS.join {z : Str} (hz : OkS z) : ∀ {ys : List Str}, (∀ y ∈ ys, OkS y) → OkS (Str.join z ys)
  | [], _ => .empty
  | [y], h => h y (List.mem_singleton.mpr rfl)
  | y :: u :: r, h => ((h y (List.mem_cons_self ..)).app hz).app (OkS.join hz fun x hx => h x (List.mem_cons_of_mem _ hx))
theorem OkS.num (i : Int) : OkS ((toString i : String) : Str) := fun c hc => by
  have e : ((toString i : String) : Str).cps.toList = (toString i).toList.map Char.toNat := by
    show (Str.ofString (toString i)).cps.toList = _
    rw [Str.ofString_eq_toList]
  rw [e] at hc
  obtain ⟨ch, h1, h2⟩ := List.mem_map.mp hc
  have := int_ascii i ch h1
  omega
theorem joinT_len {z : Str} {ys : List Str} : (Txt.join z ys).length ≤ (ys.map (·.length)).sum + ys.length * z.length := by
  rw [TL.join_eq]
  exact StrLaws.join_length_le z ys
theorem OkS.joinT {z : Str} (hz : OkS z) {ys : List Str} (h : ∀ y ∈ ys, OkS y) : OkS (Txt.join z ys) := by
  rw [TL.join_eq]
  exact .join hz h
theorem sum_ones {ys : List Str} (h : ∀ y ∈ ys, y.length = 1) : (ys.map (·.length)).sum = ys.length := by
  induction ys with
  | nil => rfl
  | cons y t ih =>
    rw [List.map_cons, List.sum_cons, ih fun y hy => h y (List.mem_cons_of_mem _ hy), h y (List.mem_cons_self ..), List.length_cons]
    omega
/-! ### a size that is small; a list that is empty -/
theorem sl (n : Nat) (h : n ≤ 1000000) : n ≤ sizeLine := by rw [sizeLine_eq]; omega
theorem toPys_strs : ∀ ys : List Str, toPys (ys.map D.str) = some (ys.map PyData.str)
  | [] => rfl
  | y :: t => by
    rw [List.map_cons]
    show (match toPy (.str y), toPys (t.map D.str) with | some p, some ps => some (p :: ps) | _, _ => none) = _
    rw [toPys_strs t]
    rfl
theorem toPys_ints : ∀ ys : List Int, toPys (ys.map D.int) = some (ys.map PyData.int)
  | [] => rfl
  | y :: t => by
    rw [List.map_cons]
    show (match toPy (.int y), toPys (t.map D.int) with | some p, some ps => some (p :: ps) | _, _ => none) = _
    rw [toPys_ints t]
    rfl
end Dl
namespace Dl
open PySem L2
theorem toPys_bls : ∀ ys : List Bool, toPys (ys.map D.bl) = some (ys.map PyData.bool)
  | [] => rfl
  | y :: t => by
    rw [List.map_cons]
    show (match toPy (.bl y), toPys (t.map D.bl) with | some p, some ps => some (p :: ps) | _, _ => none) = _
    rw [toPys_bls t]
    rfl
theorem lay_bls : ∀ ys : List Bool, PyData.canLayAll0 (ys.map PyData.bool) = true ∧ PyData.depthAll (ys.map PyData.bool) = 0
  | [] => ⟨rfl, rfl⟩
  | y :: t => by
    obtain ⟨a, b⟩ := lay_bls t
    rw [List.map_cons]
    constructor
    · show (true && PyData.canLayAll0 (t.map PyData.bool)) = true
      rw [a]; rfl
    · show max 0 (PyData.depthAll (t.map PyData.bool)) = 0
      rw [b]; rfl
theorem shaped_bls (ys : List Bool) : SeqAt.shaped (.list (ys.map PyData.bool)) = true := by
  obtain ⟨a, b⟩ := lay_bls ys
  unfold SeqAt.shaped
  show (PyData.canLayAll0 (ys.map PyData.bool) && decide (PyData.depthAll (ys.map PyData.bool) + 1 ≤ 64)) = true
  rw [a, b]; rfl
theorem eqv_bls : ∀ xs ys : List Bool, PyData.eqvAll (xs.map PyData.bool) (ys.map PyData.bool) = decide (xs = ys)
  | [], [] => by simp [PyData.eqvAll]
  | [], _ :: _ => by simp [PyData.eqvAll]
  | _ :: _, [] => by simp [PyData.eqvAll]
  | x :: xs, y :: ys => by
    rw [List.map_cons, List.map_cons, PyData.eqvAll, eqv_bls xs ys]
    cases x <;> cases y <;> simp [PyData.eqv]
theorem dNe_bls {xs ys : List Bool} {S : Store} {Q : D → Store → Prop} (h : Q (.bl (!decide (xs = ys))) S) : dNe (.lst (xs.map .bl)) (.lst (ys.map .bl)) S Q :=
  ⟨.list (xs.map .bool), .list (ys.map .bool), by show (toPys _).map PyData.list = _; rw [toPys_bls]; rfl, by show (toPys _).map PyData.list = _; rw [toPys_bls]; rfl, shaped_bls _, shaped_bls _, by
    rw [show PyData.eqv (.list (xs.map .bool)) (.list (ys.map .bool)) = PyData.eqvAll (xs.map .bool) (ys.map .bool) by simp [PyData.eqv], eqv_bls]; exact h⟩
theorem cutD_len {xs : List D} {lo hi : Option Int} : (cutD xs lo hi).length ≤ xs.length := by
  unfold cutD
  rw [List.length_take, List.length_drop]
  omega
theorem cutD_mem {xs : List D} {lo hi : Option Int} {d : D} (h : d ∈ cutD xs lo hi) : d ∈ xs := List.mem_of_mem_drop (List.mem_of_mem_take h)
theorem enum_get {ds : List D} {k : Nat} {d : D} (h : (enumD ds)[k]? = some d) : ∃ x, x ∈ ds ∧ ds[k]? = some x ∧ d = .tup [.int (k : Nat), x] := by
  unfold enumD at h
  rw [List.getElem?_mapIdx] at h
  obtain ⟨x, hx, e⟩ := Option.map_eq_some_iff.mp h
  exact ⟨x, List.mem_of_getElem? hx, hx, e.symm⟩
theorem range_get {lo : Int} {n k : Nat} {d : D} (h : (rangeD lo n)[k]? = some d) : k < n ∧ d = .int (lo + (k : Nat)) := by
  unfold rangeD at h
  rw [List.getElem?_map] at h
  obtain ⟨x, hx, e⟩ := Option.map_eq_some_iff.mp h
  obtain ⟨hl, ex⟩ := List.getElem?_eq_some_iff.mp hx
  rw [List.getElem_range] at ex
  subst ex
  exact ⟨by simpa using hl, e.symm⟩
theorem range_len {lo : Int} {n : Nat} : (rangeD lo n).length = n := by simp [rangeD]
end Dl

set_option linter.all false
set_option maxRecDepth 100000
set_option maxHeartbeats 4000000
set_option autoImplicit false
/-! exceptions: raised, caught and kept as values -/
namespace PySem.W
open PySem PySem.Spec PySem.Calls PyProof.Rows
section
variable {prog : Program} {w : World} {A : Around} {E : Value → Shared → Prop} {s : Shared} {K : Frag} {x D : Addr} {ox : Obj} {od : Option Obj}
theorem dl_find_data {C : Addr} {name : Str} {a g : Value} (hc : (clsIn K C).isSome = true) (ha : findIn K (.ref C) name = some (some a)) (hg : specialIn K a "__get__" = some (some g)) (ht : takesIn K a = some true) : findObj K C od name = some (.bind g a) := by
  obtain ⟨cd, hc⟩ := Option.isSome_iff_exists.mp hc
  unfold findObj
  rw [hc, Option.bind_some, ha, Option.bind_some]
  simp [hg, ht]
theorem dl_class {Q : Option Value → Shared → Prop} (Z : L2.ExcC K D) (X : K.In s.heap) (I : InstAt s.heap x ox D od) (h : Q (some (.ref D)) { s with toks := s.toks + 1 }) : wpAny (model prog w) A (getAttr? (.ref x) "__class__") Q E s := by
  have hf : findObj K D od "__class__" = some (.bind (.builtin "getset_descriptor.__get__") (.builtin "object.__class__")) := dl_find_data (by obtain ⟨cd, hc, _⟩ := any_some Z.hd; rw [hc]; rfl) Z.ha Z.hn Z.ht
  obtain ⟨hp, g, d, t, os⟩ := s
  have L0 := I.type (M := model prog w)
  have L1 := looks_findIn (M := model prog w) X Z.hg
  have L2 := looks_findIn (M := model prog w) X Z.hk
  have L3 := looks_find (M := model prog w) X I hf
  have sub : Looks (model prog w) hp (isInstance (.ref x) (.type "BaseException")) true := L0.andThen (looks_subIn X Z.hs)
  have hx0 : (false && onTheHeap (Value.builtin "BaseException.__getattribute__")) = false := rfl
  have hx2 : (Value.builtin "BaseException.__getattribute__" == Value.builtin "object.__getattribute__") = false := by decide +kernel
  have hx1 : (onTheHeap (Value.ref D) && Value.builtin "BaseException.__getattribute__" == Value.builtin "object.__getattribute__") = false := by rw [hx2]; rfl
  unfold getAttr? getAttrBy? getAttrBy
  refine wpAny_bind (wpAny_mkText (wpAny_bind (wpAny_attempt (wpAny_holding (wpAny_bind (L0.at (wpAny_bind (L1.at ?_))))))))
  show wpAny _ _ (if (onTheHeap (Value.ref D) && Value.builtin "BaseException.__getattribute__" == Value.builtin "object.__getattribute__") = true then _ else _) _ _ _
  rw [hx1, if_neg Bool.false_ne_true]
  unfold getAttrByItsOwn hookBefore
  refine wpAny_bind ?_
  rw [if_pos (show onTheHeap (Value.ref D) = true from rfl)]
  refine L2.at ?_
  refine wpAny_bind (wpAny_attempt (wpAny_holding ?_))
  unfold callGetattribute
  rw [hx0, if_neg Bool.false_ne_true]
  unfold boundAndCalled
  rw [PySem.F.excAttr_ValueError.ga.bind (.ref x)]
  refine wpAny_bind (wpAny_pure ?_)
  show wpAny _ _ (call (.builtin "BaseException.__getattribute__") [.ref x, .str "__class__" t]) _ _ _
  refine wpAny_call (codeAny_call_builtin PySem.F.excAttr_ValueError.ga.plain PySem.F.entry_bexc_ga ?_)
  refine @check_slot (model prog w) _ _ ⟨hp, g, d, t + 1, os⟩ "BaseException.__getattribute__" "BaseException" "__getattribute__" (.ref x) [.str "__class__" t] [] _ (by decide +kernel) (by decide +kernel) sub (PySem.F.args_bexc_ga (.ref x) (.str "__class__" t)) ?_
  unfold Builtin.«object.__getattribute__»
  refine wpAny_bind (wpAny_of_eq (a := ((Value.ref x : Value), [Value.str "__class__" t])) (by first | rfl | (simp only [slotArgs]; rfl)) ?_)
  refine wpAny_bind (wpAny_pure (wpAny_bind (L0.at (wpAny_bind (L3.at ?_)))))
  show wpAny _ _ (holding [Value.builtin "object.__class__"] (call (.builtin "getset_descriptor.__get__") [.builtin "object.__class__", .ref x, .ref D]) >>= ret) _ _ _
  refine wpAny_bind (wpAny_holding (wpAny_call (class_get (s := ⟨hp, g, d, t + 1, os⟩) (ox := ox) (od := od) X I Z.hm ?_)))
  refine wpAny_pure ?_
  show wpAny _ _ (handedOut (.ref D)) _ _ _
  rw [handedOut_of (v := .ref D) rfl]
  first
    | exact wpAny_pure (wpAny_pure h)
    | exact wpAny_pure h
    | exact wpAny_pure (wpAny_bind (wpAny_pure (wpAny_pure h)))
theorem dl_kitx (Z : L2.ExcC K D) : KitX K (.ref x) (.ref D) (fun h => InstAt h x ox D od) where
  ty := fun _ _ _ I => I.type
  it := fun _ _ X _ => by
    obtain ⟨cdD, hcD, _⟩ := any_some Z.hd
    unfold clsIn at hcD
    split at hcD
    · rename_i c' d' cd' sl' ho
      intro A' Q' E' s' k q
      unfold isType loadHead
      exact wpAny_bind (wpAny_loadPart (k _ _ (X _ _ ho)) (wpAny_pure q))
    · cases hcD
  ne := fun h tp dd its n sl X htp => by
    obtain ⟨cdD, hcD, _⟩ := any_some Z.hd
    refine Bool.eq_false_iff.mpr fun q => ?_
    have e : D = tp := Value.ref.inj (beq_iff_eq.mp q)
    subst e
    unfold clsIn at hcD
    split at hcD
    · rename_i c' d' cd' sl' ho
      have z := (X _ _ ho).symm.trans htp
      cases z
    · cases hcD
  ca := fun X I k => dl_class Z X I k
end
end PySem.W
namespace Dl
open PySem L2 PySem.Spec PyProof.Rows
/-! ### a caught exception is tracked -/
section
variable {X : Cx} {pins : List (Addr × Obj)} {σ : L2.St} {H : Hp} {s : Shared} {a C : Addr} {d : Option Addr} {oe : Obj} {vs : Array Value}
theorem extT_ok {P : Program} {w : World} {h : Heap} (ha : h.get? a = some oe) (hz : Zc (.ref C) d oe) (hd : oe.data = .fields vs) : ObjOk P w H h a (ExT C d a) :=
  ⟨⟨oe, vs, ha, hz, hd⟩, ⟨oe, ha⟩, fun _ _ ⟨o, v, q, r⟩ k => ⟨o, v, k o q, r⟩⟩
theorem inv_track (I : Inv X pins σ H s) (ha : s.heap.get? a = some oe) (hz : Zc (.ref C) d oe) (hd : oe.data = .fields vs) (na : H a = none) (nL : a ≠ X.env.locals) (new : X.s_0.heap.get? a = none) (np : ∀ p ∈ X.pn ++ pins, p.1 ≠ a) :
    Inv X pins σ (upd H a (ExT C d a)) s where
  ok := I.ok
  os := I.os
  bare := I.bare
  base := ⟨I.base.keep, I.base.slot, fun b o q n e => by rw [upd_ne (fun z => by rw [z, new] at q; cases q)]; exact I.base.free b o q n e, I.base.there, fun b xs q => by
    have z := I.base.tups b xs q
    rw [upd_ne (ne_of_none z na)]; exact z, fun b o u q => by
    have z := I.base.frzs b o u q
    rw [upd_ne (ne_of_none z na)]; exact z, fun b ps q => by
    obtain ⟨more, z⟩ := I.base.tbls b ps q
    exact ⟨more, by rw [upd_ne (ne_of_none z na)]; exact z⟩⟩
  loc := I.loc
  cell := I.cell
  free := by rw [upd_ne (Ne.symm nL)]; exact I.free
  freeC := fun x c e => by
    obtain ⟨v, o, h1, h2⟩ := I.cell x c e
    rw [upd_ne (fun z => by subst z; rw [ha] at h1; cases h1; rw [hd] at h2; cases h2)]
    exact I.freeC x c e
  pin := fun p hp => by
    obtain ⟨h1, h2, h3⟩ := I.pin p hp
    exact ⟨h1, by rw [upd_ne (np p hp)]; exact h2, h3⟩
  hok := fun b u e => by
    by_cases hb : b = a
    · subst hb
      rw [upd_same] at e
      cases e
      exact extT_ok ha hz hd
    · rw [upd_ne hb] at e
      exact (I.hok b u e).stay (fun c v _ q => q) (fun c q => by rw [upd_ne (ne_of_none q na)]; exact q) fun c xs q => by rw [upd_ne (ne_of_none q na)]; exact q
  len := I.len
end
end Dl

set_option linter.all false
set_option maxRecDepth 100000
set_option maxHeartbeats 4000000
set_option autoImplicit false
namespace Dl
open PySem L2 PySem.Spec PyProof.Rows
/-! ### try: .. except X as n: .., the exception kept -/
def wAsK (K : PySem.W.Frag) (c : Value) (i : Nat) (ts : Addr → TS) (Wout : WX) (D : Ends) : WX := fun cls d σ H =>
  ∃ b, PySem.W.exmOne K cls c = some b ∧ (b = true → ∃ C : Addr, cls = .ref C ∧ ∀ a, H a = none → ts a { nx := fun σ' H' => D.nx (σ'.set i none) H', rt := D.rt, bk := fun σ' H' => D.bk (σ'.set i none) H', ct := fun σ' H' => D.ct (σ'.set i none) H' } (σ.set i (some (.ref a))) (upd H a (ExT C d a))) ∧
    (b = false → Wout cls d σ H)
section
variable {X : Cx} {x n : Str} {c : Value} {i : Nat} {body suite : List Stmt} {b₀ : Stmt} {np pos pos' : Pos} {tb : WX → TS} {ts : Addr → TS} {Wout : WX}
theorem ps_try_k (hs : X.stack = X.env :: X.outer) (hf : X.env.frame = some X.env.locals) (hex : X.ex = []) (hN : X.N.Nodup) (hi : X.N[i]? = some n) (hln : X.env.kindOf n = some .local) (hc : Names X x c) (tk : Takes X Wout)
    (hb : ∀ (W : WX) (pn : List (Addr × Obj)) (xe : Value → Shared → Prop), Takes (X.tr pn xe) W → PassesOwn (model X.prog X.w) X.A X.env xe → PSs (X.tr pn xe) body (tb W))
    (hsu : ∀ (a : Addr) (pn : List (Addr × Obj)), PSs (X.suite a pn) (b₀ :: suite) (ts a)) :
    PS X (.Try body [.ExceptHandler (some (.Name x np)) (some n) (b₀ :: suite) pos'] [] [] pos) (fun D σ H => tb (wAsK X.K c i ts Wout D) D σ H) := by
  refine ⟨fun pins s σ H D I h => ?_⟩
  have ok := I.ok
  have hfr : X.A.frames = some (X.env :: X.outer) := by rw [ok.frames, hs]
  have hloc : Loc X.env.scope n := .inl hln
  refine wpAny_Try_except ?_
  refine wpAny_mono ((hb (wAsK X.K c i ts Wout D) (X.pn ++ pins) (fun e s₁ => wpAny (model X.prog X.w) X.A (noteFrame e X.env) (fun _ s₂ => wpAny (model X.prog X.w) X.A (setFlight e none) (fun _ s₃ =>
    wpAny (model X.prog X.w) X.A (handleBy e X.env [.ExceptHandler (some (.Name x np)) (some n) (b₀ :: suite) pos']) (SP X pins D) X.xe s₃) X.xe s₂) X.xe s₁) (fun u s' xx => ?_) PassesOwn.looking).run [] s σ H D (I.toTry _) h) (fun f s1 hsp => ?_) (fun e s1 he => he)
  · obtain ⟨a, B, sI, pins', σ', H', cls, d, rfl, J', nb, up, sky, na, os, ag, b, hb1, hyes, hno⟩ := xx
    have J : Inv X pins σ' H' sI := J'.ofTry ok
    have sky' : Sky B (X.env :: X.outer) a (Zc cls d) X.env.locals s'.heap := by rw [← hs]; exact sky
    show wpAny (model X.prog X.w) X.A (noteFrame (.ref a) X.env) _ _ _
    refine Sky.land Zc.steady hfr hf sky' fun h3 fl3 up3 => ?_
    have J3 : Inv X pins σ' H' { s' with heap := h3 } := J.landed nb fl3.1 (up.trans up3) os ag
    obtain ⟨oe3, vs3, he3, hz3, hd3⟩ := fl3.there
    have notFr : ∀ {h : Heap} {o : Obj} {vs : Array Value}, h.FunFrames B (X.env :: X.outer) → h.get? a = some o → o.data = .fields vs → a ∉ frs (X.env :: X.outer) := fun {h o vs} ff e dd hm => by
      obtain ⟨_, o', e', hnf⟩ := ff.mem hm
      rw [e] at e'; cases e'
      exact hnf _ dd
    have nfr := notFr fl3.2.2.1 he3 hd3
    have nL : a ≠ X.env.locals := fun z => nfr (List.mem_filterMap.mpr ⟨X.env, List.mem_cons_self, by rw [hf, z]⟩)
    have nF : a ∉ X.fs := fun hm => by
      obtain ⟨e, he, q⟩ := List.mem_filterMap.mp hm
      exact nfr (List.mem_filterMap.mpr ⟨e, List.mem_cons_of_mem _ he, q⟩)
    have nI : sI.heap.get? a = none := by
      cases q : sI.heap.get? a with
      | none => rfl
      | some o =>
        have := nb a o q (by rw [hs]; exact nfr)
        rw [fl3.2.1] at this
        cases this
    have n0 : X.s_0.heap.get? a = none := by
      cases q : X.s_0.heap.get? a with
      | none => rfl
      | some o =>
        obtain ⟨o', z⟩ := J.base.there a o q (by rw [hex]; simp)
        rw [nI] at z
        cases z
    have npin : ∀ p ∈ X.pn ++ pins, p.1 ≠ a := fun p hp z => by
      have := (J.pin p hp).1
      rw [z, nI] at this
      cases this
    have S3 := J3.suite he3 hd3 na nL nF
    refine wpAny_handleBy_cons (codeAny_handlers_test ?_) (by intro q; cases q)
    have LT : PySem.W.Looks (model X.prog X.w) h3 (typeOf (.ref a)) cls := fun A Q E s k q => wpAny_typeOf_ref (k _ _ he3) (by rw [hz3.1]; exact q)
    have LM := PySem.W.exm_one (M := model X.prog X.w) (J3.kIn) LT hb1
    have test : ∀ {Q : Value → Shared → Prop} {E : Value → Shared → Prop}, Q c { s' with heap := h3 } → wpAny (model X.prog X.w) (X.A.mark (some (.ref a))) (eval (.Name x np) X.env) Q E { s' with heap := h3 } := fun {Q E} q => by
      obtain ⟨hg, hdbg, hm | ⟨hm, hv, hnn⟩⟩ := hc
      · exact ld_glob (X := X.suite a ((a, oe3) :: (X.pn ++ pins))) S3 hg hm q hdbg
      · exact ld_blt (X := X.suite a ((a, oe3) :: (X.pn ++ pins))) S3 hg hm hv q hnn hdbg
    refine test (LM.here ?_)
    cases b with
    | true =>
      obtain ⟨C, rfl, hy2⟩ := hyes rfl
      refine codeAny_handlers_suite_as ?_
      refine HandSPX.lands_againZ fl3 fun h4 fl4 up4 => ?_
      have J4 : Inv X pins σ' H' { s' with heap := h4 } := J.landed nb fl4.1 ((up.trans up3).trans up4) os ag
      obtain ⟨oe4, vs4, he4, hz4, hd4⟩ := fl4.there
      have T4 : Inv X pins σ' (upd H' a (ExT C d a)) { s' with heap := h4 } := inv_track J4 he4 hz4 hd4 na nL n0 npin
      have S4 : Inv (X.suite a (X.pn ++ pins)) [] σ' (upd H' a (ExT C d a)) { s' with heap := h4 } :=
        ⟨T4.ok.suite _ _, T4.os, T4.bare, T4.base, T4.loc, T4.cell, T4.free, T4.freeC, fun p hp => T4.pin p (by rw [List.append_nil] at hp; exact hp), T4.hok, T4.len⟩
      have unS : ∀ {σ6 : L2.St} {H6 : Hp} {s6 : Shared}, Inv (X.suite a (X.pn ++ pins)) [] σ6 H6 s6 → Inv X pins σ6 H6 s6 := fun I6 =>
        ⟨ok, I6.os, I6.bare, I6.base, I6.loc, I6.cell, I6.free, I6.freeC, fun p hp => I6.pin p (List.mem_append_left _ hp), I6.hok, I6.len⟩
      refine store_ok (X := X.suite a (X.pn ++ pins)) (v := .ref a) S4 hN hi hloc rfl (fun s5 S5 => ?_) (.inr hln)
      refine wpAny_mono ((hsu a (X.pn ++ pins)).run [] s5 _ _ _ S5 (hy2 a na)) (fun f s6 hsp => ?_) (fun _ _ z => False.elim z)
      have end_ : ∀ {σ6 : L2.St} {H6 : Hp} {Q : Shared → Prop}, Inv (X.suite a (X.pn ++ pins)) [] σ6 H6 s6 → (∀ s7, Inv X pins (σ6.set i none) H6 s7 → Q s7) →
          wpAny (model X.prog X.w) X.A (do bindName X.env n .none; unbindBehindTheSuite X.env n pos') (fun _ s7 => Q s7) X.xe s6 := fun {σ6 H6 Q} S6 hq => gone_ok (unS S6) hN hi hln hq
      cases f with
      | next =>
        obtain ⟨σ6, H6, S6, q6⟩ := hsp
        exact end_ S6 fun s7 J7 => ⟨_, _, J7, q6⟩
      | brk =>
        obtain ⟨σ6, H6, S6, q6⟩ := hsp
        exact end_ S6 fun s7 J7 => ⟨_, _, J7, q6⟩
      | cont =>
        obtain ⟨σ6, H6, S6, q6⟩ := hsp
        exact end_ S6 fun s7 J7 => ⟨_, _, J7, q6⟩
      | ret u =>
        obtain ⟨v6, σ6, H6, S6, r6, q6⟩ := hsp
        exact end_ S6 fun s7 J7 => ⟨_, _, _, J7, r6, q6⟩
    | false =>
      show wpAny _ X.A (handleBy (.ref a) X.env []) _ _ _
      refine wpAny_handleBy_nil ?_
      obtain ⟨k1, k2, k3, oe, vs, T, oT, ts', he, hz, hd, h1, hr⟩ := id fl3
      unfold PySem.passOn
      refine wpAny_bind (wpAny_field he hd h1 ?_)
      rw [if_neg (show ¬ ((Value.ref T == Value.none) = true) from by simp)]
      have fin : wpAny (model X.prog X.w) X.A (setFlight (.ref a) X.env.frame) (fun _ s4 => wpAny (model X.prog X.w) X.A (throw (.ref a) : Sem Flow) (SP X pins D) X.xe s4) X.xe { s' with heap := h3 } := by
        rw [hf]
        refine HandSPX.setFlight_upZ fl3 fun h4 hh4 up4 => wpAny_throw (tk _ _ ?_)
        exact ⟨a, B, sI, pins, σ', H', cls, d, rfl, J, nb, (up.trans up3).trans up4, .inr (.inr (by rw [hs]; exact hh4)), na, os, ag, hno rfl⟩
      first
        | exact wpAny_bind (wpAny_pure (wpAny_bind fin))
        | exact wpAny_bind fin
  · cases f with
    | next =>
      obtain ⟨σ', H', J', q⟩ := hsp
      exact wpAny_execs_nil ⟨σ', H', J'.ofTry ok, q⟩
    | brk =>
      obtain ⟨σ', H', J', q⟩ := hsp
      exact ⟨σ', H', J'.ofTry ok, q⟩
    | cont =>
      obtain ⟨σ', H', J', q⟩ := hsp
      exact ⟨σ', H', J'.ofTry ok, q⟩
    | ret u =>
      obtain ⟨v, σ', H', J', r, q⟩ := hsp
      exact ⟨v, σ', H', J'.ofTry ok, r, q⟩
end
/-- what the body's exceptions meet -/
def caught (X : Cx) (ξ : XD) (c : Value) (i : Nat) (suite : List Stmt) (P : Post) : XD := fun C fs ρ S => ∃ b, PySem.W.exmOne X.K (.ref C) c = some b ∧
  (b = true → ∀ a pn, WpB (X.suite a pn) bot suite (ρ.set i (some (.exc C fs))) S { nx := fun ρ' => P.nx (ρ'.set i none), rt := P.rt, bk := fun ρ' => P.bk (ρ'.set i none), ct := fun ρ' => P.ct (ρ'.set i none) }) ∧ (b = false → ξ C fs ρ S)
theorem ws_try {X : Cx} {ξ : XD} {ρ : Env} {S : Store} {P : Post} {x n : Str} {body suite : List Stmt} {b₀ : Stmt} {np pos pos' : Pos} (c : Value) (i : Nat) (hN : X.N.Nodup)
    (h : ∀ pn xe, PassesOwn (model X.prog X.w) X.A X.env xe → WpB (X.tr pn xe) (caught X ξ c i (b₀ :: suite) P) body ρ S P)
    (hc : Names X x c) (hi : X.N[i]? = some n := by rfl) (hln : X.env.kindOf n = some .local := by rfl)
    (hs : X.stack = X.env :: X.outer := by rfl) (hf : X.env.frame = some X.env.locals := by rfl) (hex : X.ex = [] := by rfl) :
    WpS X ξ (.Try body [.ExceptHandler (some (.Name x np)) (some n) (b₀ :: suite) pos'] [] [] pos) ρ S P := by
  refine ⟨fun σ H m G s r pins sh I => ?_⟩
  refine (ps_try_k (tb := fun W D σ H => ∀ pn xe, Takes (X.tr pn xe) W → PassesOwn (model X.prog X.w) X.A X.env xe → tUB (X.tr pn xe) body D σ H) (ts := fun a D σ H => ∀ pn, tUB (X.suite a pn) (b₀ :: suite) D σ H) (np := np) (pos := pos) (pos' := pos')
    (Wout := EvW X.K m G H ξ) hs hf hex hN hi hln hc s.xo (fun W pn xe tk po => ⟨fun pins s σ H D I h => h pn xe tk po pins s I⟩) (fun a pn => ⟨fun pins s σ H D I h => h pn pins s I⟩)).run pins sh σ H _ I ?_
  intro pn xe tk po
  refine (h pn xe po).use ⟨s.toSim, tk.imp fun cls d σ' H' ⟨C, fs, ρ', S', m', G', e, ⟨b, hb, h1, h2⟩, l', s', r', xd⟩ => ?_⟩ r ⟨fun _ _ z => z, fun _ _ z => z, fun _ _ z => z, fun _ _ z => z⟩
  subst e
  refine ⟨b, hb, fun eb => ⟨C, rfl, fun a ha pn2 => ?_⟩, fun eb => ⟨C, fs, ρ', S', m', G', rfl, h2 eb, l', s', r', xd⟩⟩
  obtain ⟨s2, l2⟩ := s'.alloc ha (ExT C d a)
  obtain ⟨ks, x1, x2, x3⟩ := xd.mono l2
  refine (h1 eb a pn2).use (Sim.bot s2) ((r'.mono l2).set i (.exc (by rw [upd_same]) x1 x2 x3)) ?_
  have L := l'.trans l2
  refine ⟨fun σ4 H4 ⟨ρ4, S4, m4, G4, q4, l4, s4, r4⟩ => ⟨ρ4.set i none, S4, m4, G4, q4, L.trans l4, s4, r4.unset i⟩, fun v4 H4 ⟨d4, S4, m4, G4, q4, l4, s4, r4⟩ => ⟨d4, S4, m4, G4, q4, L.trans l4, s4, r4⟩,
    fun σ4 H4 ⟨ρ4, S4, m4, G4, q4, l4, s4, r4⟩ => ⟨ρ4.set i none, S4, m4, G4, q4, L.trans l4, s4, r4.unset i⟩, fun σ4 H4 ⟨ρ4, S4, m4, G4, q4, l4, s4, r4⟩ => ⟨ρ4.set i none, S4, m4, G4, q4, L.trans l4, s4, r4.unset i⟩⟩
end Dl

set_option linter.all false
set_option maxRecDepth 100000
set_option maxHeartbeats 4000000
set_option autoImplicit false
namespace Dl
open PySem L2 PySem.Spec PyProof.Rows
/-! ### raise C('text'), C without its own __init__ -/
structure XcC (K : PySem.W.Frag) (mg : Str → Option Value) (x : Str) (C : Addr) : Prop where
  ex : PySem.W.excIn K C [.type "ValueError", .type "Exception", .type "BaseException", .type "object"] "ValueError.__new__" = true
  g : mg x = some (.ref C)
  k : PySem.W.keepIn K (.ref C) = true
  s : PySem.W.subIn K (.ref C) (.type "BaseException") = some true
  t : PySem.W.typeIn K (.ref C) = some (.type "type")
section
variable {X : Cx} {ξ : XD} {ρ : Env} {S : Store} {P : Post} {x m f : Str} {j : Nat} {p p2 pos pos2 : Pos} {C : Addr} {e : Expr} {Q : D → Store → Prop}
theorem ws_raise (Z : XcC X.K X.mg x C) (hc : X.calm = true) (h : ξ C [] ρ S) (hg : Gl X x := by rfl) (hdb : (x == ("__debug__" : Str)) = false := by decide) : WpS X ξ (.Raise (some (.Call (.Name x p) [.Constant (.str m) j p2] [] pos)) none pos2) ρ S P :=
  ⟨fun σ H mm G s r pins sh I => (ps_raise hc s.xo (pmk_own PySem.F.excBase_ValueError Z.ex Z.g Z.k (raises_own Z.s Z.t) hg hdb)).run pins sh σ H _ I ⟨C, [], ρ, S, mm, G, rfl, h, .refl .., s, r, ⟨[], rfl, rfl, .nil⟩⟩⟩
/-! ### raise C(e), C's own __init__ sets one field -/
/-- B.__init__(self, ..), B an own class over ValueError -/
theorem pe_hinit {pl : Sem Bool} {b : Str} {es : List Expr} {ta : TA} {B : Addr} {mc : Value} {p1 p2 pos : Pos} (hg : Gl X b) (hm : X.mg b = some (.ref B)) (hga : PySem.W.specialIn X.K (.ref B) "__getattribute__" = some (some (.builtin "type.__getattribute__"))) (hr : PySem.W.readsIn X.K B mc = true)
    (vV : PySem.W.findCls X.K (.ref B) mc "__init__" = some (.val (.builtin "ValueError.__init__"))) (hdb : (b == ("__debug__" : Str)) = false) (ha : PA X (e :: es) ta)
    (hc : eval (.Call (.Attribute (.Name b p1) "__init__" p2) (e :: es) [] pos) X.env = (do
      let ov ← eval (.Name b p1) X.env
      standAt p2.atName
      let (f, first) ← holding [ov] (getMethod ov "__init__" pl)
      callWith pos f first (backTo pos (starEach (e :: es) X.env)) (backToKw pos (keywordEach [] X.env))) := by rfl)
    (he : starEach (e :: es) X.env = (false, eval e X.env) :: starEach es X.env := by rfl) (hpl : (backTo pos (starEach es X.env)).any (·.1) = false := by rfl) :
    PE X (.Call (.Attribute (.Name b p1) "__init__" p2) (e :: es) [] pos) (tVeI X.K ta) := by
  refine ⟨fun pins s σ H Q I h => ?_⟩
  refine PySem.W.methodCall_KW (ld_glob I hg hm ?_ hdb) hc
  refine PySem.W.method_cls I.kIn hga (PySem.W.cls_value I.kIn hr vV (by decide +kernel) ?_)
  show wpAny _ _ (callWith pos (Value.builtin "ValueError.__init__") [] (backTo pos (starEach (e :: es) X.env)) []) _ _ _
  refine PyProof.Rows.callWith_method1 (thn (ha.run pos pins _ σ H _ (I.tok _) h) fun us s1 ⟨vs, H1, I1, r1, a, C, ws, ev, hl, T, ea, q⟩ => ?_) he hpl
  subst ev
  cases r1 with
  | @cons _ u0 _ ur ra rw' =>
    obtain rfl : u0 = Value.ref a := ra
    have hlen : ur.length ≤ sizeLine := by
      rw [← Paired.length rw', sizeLine_eq]
      omega
    exact oinit_ok T I1 ea hlen fun s' J => ⟨.non, H1, J, rfl, q⟩
def spXi (K : PySem.W.Frag) (C : Addr) (f : Str) : Sp := fun vs H Q _ => ∃ a v, vs = [.ref a, v] ∧ H a = some (exo a C none) ∧ ∀ dx, H dx = none → dx ≠ a → Q .non (upd (upd H dx (exd dx [(f, v)])) a (exo a C (some dx)))
/-- what the text says of such a class -/
structure XfI (P : Program) (w : World) (K : PySem.W.Frag) (mg : Str → Option Value) (base : Heap) (x f : Str) (C : Addr) : Prop where
  T : OexC K C
  g : mg x = some (.ref C)
  ini : ∃ (fI : Addr) (fd : FuncData) (ps : List Str), PySem.W.findIn K (.ref C) "__init__" = some (some (.ref fI)) ∧ PySem.W.typeIn K (.ref fI) = some (.type "function") ∧ Binds K fd ps [] ∧ FnOk P w K mg base (L2.CX P w) 1 fI fd ps (spXi K C f)
theorem ws_raiseF (Z : XfI X.prog X.w X.K X.mg X.base x f C) (hr : Room 2 X.A) (hc : X.calm = true) (h : WpE X ξ e ρ S fun d S1 => ξ C [(f, d)] ρ S1) (hg : Gl X x := by rfl) (hdb : (x == ("__debug__" : Str)) = false := by decide)
    (he : starEach [e] X.env = (false, eval e X.env) :: starEach [] X.env := by rfl) (hpl : (backTo pos (starEach [] X.env)).any (·.1) = false := by rfl) : WpS X ξ (.Raise (some (.Call (.Name x p) [e] [] pos)) none pos2) ρ S P := by
  obtain ⟨fI, fd, ps, iC, tI, hb, F⟩ := Z.ini
  refine ⟨fun σ H mm G s r pins sh I => (ps_raise hc s.xo (pmk_oex Z.T iC tI F hr hb .nil passL hg Z.g (pa_cons (uE e) pa_nil he) hdb he hpl)).run pins sh σ H _ I ?_⟩
  refine h.use s r fun v d H1 S1 m1 G1 q l1 s1 r1 rs1 => ⟨by simp, fun a ha => ⟨a, v, rfl, upd_same, fun dx hdx ne => ⟨rfl, dx, [(f, v)], upd_same, ?_, ?_, ?_⟩⟩⟩
  · rw [upd_ne ne, upd_same]
  · rw [upd_ne ne] at hdx; exact hdx
  · rw [upd_ne ne] at hdx
    have e1 : upd (del (upd (upd (upd H1 a (exo a C none)) dx (exd dx [(f, v)])) a (exo a C (some dx))) a) dx (.xd [(f, v)]) = upd H1 dx (.xd [(f, v)]) := by
      funext b
      by_cases hb1 : b = dx
      · subst hb1; rw [upd_same, upd_same]
      · rw [upd_ne hb1, upd_ne hb1]
        by_cases hb2 : b = a
        · subst hb2; rw [del_same, ha]
        · rw [del_ne hb2, upd_ne hb2, upd_ne hb1, upd_ne hb2]
    rw [e1]
    obtain ⟨s2, l2⟩ := s1.alloc hdx (.xd [(f, v)])
    exact ⟨C, [(f, d)], ρ, S1, m1, _, rfl, q, l1.trans l2, s2, rs1.mono l2, ⟨[(f, v)], upd_same, rfl, .cons (r1.mono l2) .nil⟩⟩
/-! ### isinstance(e, C), e.f -/
theorem Rep.exc_ {K : PySem.W.Frag} {m : List Addr} {G H : Hp} {S : Store} {v : V} {fs : List (Str × D)} (h : Rep K m G v (.exc C fs)) (s : Sim K m G H S) : ∃ a d ks, v = .ref a ∧ H a = some (ExT C d a) ∧ XdG H d ks ∧ ks.map (·.1) = fs.map (·.1) ∧ Reps K m G (ks.map (·.2)) (fs.map (·.2)) := by
  cases h with
  | @exc a C d ks fs h x e r =>
    refine ⟨a, d, ks, rfl, s.ex _ _ h, ?_, e, r⟩
    cases d with
    | none => exact x
    | some dd => exact s.ex _ _ x
def rIsX (K : PySem.W.Frag) : List V → Hp → VK → Prop := fun xs H Q => ∃ (a C : Addr) (d : Option Addr) (ks : List (Str × V)) (c : V) (cv : Value) (b : Bool), xs = [.ref a, c] ∧ H a = some (ExT C d a) ∧ XdG H d ks ∧ ExcC K C ∧ (∀ u, RelV c u → u = cv) ∧ PySem.W.kitOne K (.ref C) cv = some b ∧ Q (.bl b) H
theorem inst_exT {pins : List (Addr × Obj)} {s : Shared} {σ : L2.St} {H : Hp} {a C : Addr} {d : Option Addr} {ks : List (Str × V)} (I : Inv X pins σ H s) (ha : H a = some (ExT C d a)) (hx : XdG H d ks) :
    ∃ oe od, PySem.W.InstAt s.heap a oe C od ∧ ∀ dd, d = some dd → ∃ od', od = some od' ∧ s.heap.get? dd = some od' := by
  obtain ⟨⟨oe, vs, h1, h2, h3⟩, _⟩ := I.hok a _ ha
  cases d with
  | none => exact ⟨oe, none, ⟨h1, h2.1, by unfold PySem.W.notCls; rw [h3] <;> rfl, by rw [h2.2] <;> trivial⟩, fun _ z => nomatch z⟩
  | some dd =>
    obtain ⟨mA, hns, hr⟩ : ObjOk X.prog X.w H s.heap dd (.xd ks) := I.hok dd _ hx
    obtain ⟨od, ho, hl⟩ := lookIn_ns hns
    exact ⟨oe, some od, ⟨h1, h2.1, by unfold PySem.W.notCls; rw [h3] <;> rfl, by rw [h2.2]; exact ho⟩, fun dd' z => by cases z; exact ⟨od, rfl, ho⟩⟩
theorem call_isX : CallR X (.builtin "isinstance") (rIsX X.K) := by
  intro pins s σ H xs us Q I r h
  obtain ⟨a, C, d, ks, c, cv, b, rfl, ha, hx, Z, hcv, e, q⟩ := h
  cases r with
  | cons rx rr =>
    cases rr with
    | cons rt rr =>
      cases rr
      cases rx
      have ec := hcv _ rt
      subst ec
      obtain ⟨oe, od, J, _⟩ := inst_exT I ha hx
      exact PySem.W.kia_one (PySem.W.dl_kitx Z) I.kIn J e (fun z => nomatch z) fun tk => ⟨.bl b, H, I.kept (t' := tk) fun _ _ z => z, rfl, q⟩
/-- a class as data, as a value -/
def clsD (d : D) (u : Value) : Prop := (∃ a, d = .ref a ∧ u = .ref a) ∨ ∃ n, d = .ty n ∧ u = .type n
theorem clsD_rel {K : PySem.W.Frag} {m : List Addr} {G : Hp} {v : V} {d : D} {cv : Value} (h : clsD d cv) (r : Rep K m G v d) : ∀ u, RelV v u → u = cv := by
  rcases h with ⟨a, rfl, rfl⟩ | ⟨n, rfl, rfl⟩
  · cases r; intro u q; exact q
  · cases r; intro u q; exact q
theorem we_isiX {es : List Expr} (hm : X.mg "isinstance" = none) (h : WpA X ξ (e :: es) ρ S fun ds S1 => ∃ C fs dc cv b, ds = [.exc C fs, dc] ∧ clsD dc cv ∧ ExcC X.K C ∧ PySem.W.kitOne X.K (.ref C) cv = some b ∧ Q (.bl b) S1) (hg : Gl X "isinstance" := by rfl)
    (he : starEach (e :: es) X.env = (false, eval e X.env) :: starEach es X.env := by rfl) (hpl : (backTo pos (starEach es X.env)).any (·.1) = false := by rfl) : WpE X ξ (.Call (.Name "isinstance" p) (e :: es) [] pos) ρ S Q :=
  WpE.of (pe_callB call_isX hg hm (by decide +kernel) (uA _) (by decide) (by decide) he hpl) fun σ H m G s r => h.use s r fun vs ds H1 S1 m1 G1 ⟨C, fs, dc, cv, b, e1, hcd, Z, e2, q⟩ l1 s1 r1 rs1 => by
    subst e1
    obtain ⟨v, v2, rfl, ra, rb⟩ := r1.two
    obtain ⟨a, d, ks, rfl, ha, hx, _, _⟩ := ra.exc_ s1.toSim
    exact ⟨a, C, d, ks, v2, cv, b, rfl, ha, hx, Z, clsD_rel hcd rb, e2, .mk q l1 s1 (.bl _)⟩
/-- e.f of a kept exception -/
def tXk (K : PySem.W.Frag) (f : Str) (te : TE) : TE := fun σ H Q => te σ H fun x H1 => ∃ (a C dd : Addr) (ks : List (Str × V)) (v : V), x = .ref a ∧ H1 a = some (ExT C (some dd) a) ∧ H1 dd = some (.xd ks) ∧ XfC K C ∧ PySem.W.findIn K (.ref C) f = some none ∧ ks.lookup f = some v ∧ Q v H1
theorem pe_xk {te : TE} (he : PE X e te) (hb : attributeBase e f X.env (eval e X.env) = eval e X.env) : PE X (.Attribute e f pos) (tXk X.K f te) := by
  refine ⟨fun pins s σ H Q I h => ?_⟩
  refine attr_of hb (thn (he.run pins s σ H _ I h) fun u s1 ⟨x, H1, I1, rx, a, C, dd, ks, v, ex, ea, ed, T, hno, l, q⟩ => ?_)
  subst ex
  obtain rfl : u = Value.ref a := rx
  obtain ⟨⟨oe, vs, h1, h2, h3⟩, _⟩ := I1.hok a _ ea
  obtain ⟨mA, hns, hr⟩ : ObjOk X.prog X.w H1 s1.heap dd (.xd ks) := I1.hok dd _ ed
  obtain ⟨od, ho, hl⟩ := lookIn_ns hns
  obtain ⟨u, hu, ru⟩ := RelO.some_of (v := v) (o := mA f) (by rw [← l]; exact hr f)
  have J : PySem.W.InstAt s1.heap a oe C (some od) := ⟨h1, h2.1, by unfold PySem.W.notCls; rw [h3] <;> rfl, by rw [h2.2]; exact ho⟩
  exact HandSPX.exc_get I1.kIn J T.ga T.gg T.exC (PySem.W.findObj_own T.hdC hno rfl (by rw [hl, hu])) (handed_of ru) ⟨v, H1, I1.tok _, ru, q⟩
end
end Dl

set_option linter.all false
set_option maxRecDepth 100000
set_option maxHeartbeats 4000000
set_option autoImplicit false
/-! objects: attributes, methods, making -/
namespace Dl
open PySem L2 PySem.Spec PyProof.Rows
section
variable {K : PySem.W.Frag} {m : List Addr} {G H : Hp} {S : Store}
theorem lookup_rep {f : Str} : ∀ {ks : List (Str × V)} {fs : List (Str × D)} (_ : ks.map (·.1) = fs.map (·.1)) (_ : Reps K m G (ks.map (·.2)) (fs.map (·.2))),
    (ks.lookup f = none ∧ fs.lookup f = none) ∨ ∃ v d, ks.lookup f = some v ∧ fs.lookup f = some d ∧ Rep K m G v d
  | [], [], _, _ => .inl ⟨rfl, rfl⟩
  | [], _ :: _, e, _ => by cases e
  | _ :: _, [], e, _ => by cases e
  | (g, v) :: ks, (g', d) :: fs, e, r => by
    have e1 : g = g' := (List.cons.inj e).1
    have e2 : ks.map (·.1) = fs.map (·.1) := (List.cons.inj e).2
    subst e1
    cases r with
    | cons h t =>
      by_cases hf : f = g
      · subst hf
        exact .inr ⟨v, d, by simp [List.lookup], by simp [List.lookup], h⟩
      · have hb : (f == g) = false := by simpa using hf
        rcases lookup_rep (f := f) e2 t with ⟨a, b⟩ | ⟨v', d', a, b, c⟩
        · exact .inl ⟨by rw [List.lookup, hb]; exact a, by rw [List.lookup, hb]; exact b⟩
        · exact .inr ⟨v', d', by rw [List.lookup, hb]; exact a, by rw [List.lookup, hb]; exact b, c⟩
def putFD (f : Str) (d : D) : List (Str × D) → List (Str × D)
  | [] => [(f, d)]
  | (g, x) :: r => if g = f then (g, d) :: r else (g, x) :: putFD f d r
theorem putF_rep {f : Str} {v : V} {d : D} (h : Rep K m G v d) : ∀ {ks : List (Str × V)} {fs : List (Str × D)} (_ : ks.map (·.1) = fs.map (·.1)) (_ : Reps K m G (ks.map (·.2)) (fs.map (·.2))),
    (putF f v ks).map (·.1) = (putFD f d fs).map (·.1) ∧ Reps K m G ((putF f v ks).map (·.2)) ((putFD f d fs).map (·.2))
  | [], [], _, _ => ⟨rfl, .cons h .nil⟩
  | [], _ :: _, e, _ => by cases e
  | _ :: _, [], e, _ => by cases e
  | (g, w) :: ks, (g', x) :: fs, e, r => by
    have e1 : g = g' := (List.cons.inj e).1
    have e2 : ks.map (·.1) = fs.map (·.1) := (List.cons.inj e).2
    subst e1
    cases r with
    | cons hx t =>
      unfold putF putFD
      by_cases hf : g = f
      · rw [if_pos hf, if_pos hf]
        exact ⟨by simp [e2], .cons h t⟩
      · rw [if_neg hf, if_neg hf]
        obtain ⟨a, b⟩ := putF_rep h e2 t
        exact ⟨by simp [a], .cons hx b⟩
/-- an attribute -/
def dAttr (K : PySem.W.Frag) (f : Str) (d : D) (S : Store) (Q : D → Store → Prop) : Prop := match d with
  | .obj C fs => Cls K C ∧ NoAttr K C f ∧ ∃ x, fs.lookup f = some x ∧ Q x S
  | .cell i => ∃ C fs x, S[i]? = some (.ins C fs) ∧ Cls K C ∧ NoAttr K C f ∧ fs.lookup f = some x ∧ Q x S
  | .exc C fs => XfC K C ∧ NoAttr K C f ∧ ∃ x, fs.lookup f = some x ∧ Q x S
  | _ => False
/-- an instance as data -/
def InsD (S : Store) (d : D) (C : Addr) (fs : List (Str × D)) : Prop := d = .obj C fs ∨ ∃ i, d = .cell i ∧ S[i]? = some (.ins C fs)
theorem InsD.rep {d : D} {C : Addr} {fs : List (Str × D)} {v : V} (h : InsD S d C fs) (s : Sim K m G H S) (r : Rep K m G v d) : ∃ a dx ks, v = .ref a ∧ H a = some (.ins C dx ks) ∧ ks.map (·.1) = fs.map (·.1) ∧ Reps K m G (ks.map (·.2)) (fs.map (·.2)) := by
  rcases h with rfl | ⟨i, rfl, hi⟩
  · exact r.obj_ s
  · obtain ⟨a, rfl, ha⟩ := r.cell_
    obtain ⟨dx, ks, h1, h2, h3⟩ := s.at_ _ _ _ ha hi
    exact ⟨a, dx, ks, rfl, h1, h2, h3⟩
end
section
variable {X : Cx} {ξ : XD} {ρ : Env} {S : Store} {P : Post} {x mt f : Str} {p pos pos' apos : Pos} {C : Addr} {e o : Expr} {es : List Expr} {Q : D → Store → Prop} {k : Nat} {R : DSp}
def tAttr (K : PySem.W.Frag) (f : Str) (te : TE) : TE := fun σ H Q => te σ H fun x H1 => (∃ a C dx fs v, x = .ref a ∧ H1 a = some (.ins C dx fs) ∧ Cls K C ∧ NoAttr K C f ∧ fs.lookup f = some v ∧ Q v H1) ∨
  (∃ (a C dd : Addr) (ks : List (Str × V)) (v : V), x = .ref a ∧ H1 a = some (ExT C (some dd) a) ∧ H1 dd = some (.xd ks) ∧ XfC K C ∧ PySem.W.findIn K (.ref C) f = some none ∧ ks.lookup f = some v ∧ Q v H1)
theorem pe_attr {te : TE} (he : PE X e te) (hb : attributeBase e f X.env (eval e X.env) = eval e X.env) : PE X (.Attribute e f pos) (tAttr X.K f te) := by
  refine ⟨fun pins s σ H Q I h => ?_⟩
  refine attr_of hb (thn (he.run pins s σ H _ I h) fun u s1 ⟨x, H1, I1, rx, hh⟩ => ?_)
  rcases hh with ⟨a, C, dx, fs, v, ex, ea, c, n, l, q⟩ | ⟨a, C, dd, ks, v, ex, ea, ed, T, hno, l, q⟩
  · subst ex
    obtain rfl : u = Value.ref a := rx
    exact getattr_ok I1 ea c n l fun u s2 I2 ru => ⟨v, H1, I2, ru, q⟩
  · subst ex
    obtain rfl : u = Value.ref a := rx
    obtain ⟨⟨oe, vs, h1, h2, h3⟩, _⟩ := I1.hok a _ ea
    obtain ⟨mA, hns, hr⟩ : ObjOk X.prog X.w H1 s1.heap dd (.xd ks) := I1.hok dd _ ed
    obtain ⟨od, ho, hl⟩ := lookIn_ns hns
    obtain ⟨u, hu, ru⟩ := RelO.some_of (v := v) (o := mA f) (by rw [← l]; exact hr f)
    have J : PySem.W.InstAt s1.heap a oe C (some od) := ⟨h1, h2.1, by unfold PySem.W.notCls; rw [h3] <;> rfl, by rw [h2.2]; exact ho⟩
    exact HandSPX.exc_get I1.kIn J T.ga T.gg T.exC (PySem.W.findObj_own T.hdC hno rfl (by rw [hl, hu])) (handed_of ru) ⟨v, H1, I1.tok _, ru, q⟩
/-- o.f -/
theorem we_attr (h : WpE X ξ e ρ S fun d S1 => dAttr X.K f d S1 Q) (hb : attributeBase e f X.env (eval e X.env) = eval e X.env := by rfl) : WpE X ξ (.Attribute e f pos) ρ S Q :=
  WpE.of (pe_attr (uE e) hb) fun σ H m G s r => h.use s r fun v d H1 S1 m1 G1 q l1 s1 r1 rs1 => by
    cases d <;> first | exact q.elim | skip
    · obtain ⟨c, n, x, hl, q⟩ := q
      obtain ⟨a, dx, ks, rfl, ha, ek, rr⟩ := r1.obj_ s1.toSim
      rcases lookup_rep (f := f) ek rr with ⟨_, z⟩ | ⟨v, d', z1, z2, z3⟩
      · rw [hl] at z; cases z
      · rw [hl] at z2; cases z2
        exact .inl ⟨a, _, dx, ks, v, rfl, ha, c, n, z1, .mk q l1 s1 z3⟩
    · obtain ⟨c, n, x, hl, q⟩ := q
      obtain ⟨a, d, ks, rfl, ha, hx, ek, rr⟩ := r1.exc_ s1.toSim
      rcases lookup_rep (f := f) ek rr with ⟨_, z⟩ | ⟨v, d', z1, z2, z3⟩
      · rw [hl] at z; cases z
      · rw [hl] at z2; cases z2
        cases d with
        | none =>
          have : ks = [] := hx
          subst this
          cases z1
        | some dd => exact .inr ⟨a, _, dd, ks, v, rfl, ha, hx, c, n, z1, .mk q l1 s1 z3⟩
    · obtain ⟨C, fs, x, hS, c, n, hl, q⟩ := q
      obtain ⟨a, rfl, ha⟩ := r1.cell_
      obtain ⟨dx, ks, h1, ek, rr⟩ := s1.at_ _ _ _ ha hS
      rcases lookup_rep (f := f) ek rr with ⟨_, z⟩ | ⟨v, d', z1, z2, z3⟩
      · rw [hl] at z; cases z
      · rw [hl] at z2; cases z2
        exact .inl ⟨a, C, dx, ks, v, rfl, h1, c, n, z1, .mk q l1 s1 z3⟩
/-- o.f = e, o a cell -/
theorem ws_attr {value : Expr} (h : WpE X ξ value ρ S fun y S1 => WpE X ξ o ρ S1 fun d S2 => ∃ i C fs, d = .cell i ∧ S2[i]? = some (.ins C fs) ∧ Cls X.K C ∧ NoAttr X.K C f ∧ fs.length < 1000 ∧ P.nx ρ (S2.set i (.ins C (putFD f y fs))))
    (hs : swapsWith value (some (.Attribute o f pos')) pos.line X.env = pure false := by rfl) : WpS X ξ (.Assign [.Attribute o f pos'] value pos) ρ S P :=
  WpS.of (ps_fld (uE o) (uE value) hs) fun σ H m G s r => h.use s r fun v y H1 S1 m1 G1 q l1 s1 r1 rs1 => q.use s1 rs1 fun w d H2 S2 m2 G2 ⟨i, C, fs, ed, hS, c, n, hl, q⟩ l2 s2 r2 rs2 => by
    subst ed
    obtain ⟨a, rfl, ha⟩ := r2.cell_
    obtain ⟨dx, ks, h1, ek, rr⟩ := s2.at_ _ _ _ ha hS
    have hlk : ks.length = fs.length := by
      have := congrArg List.length ek
      simpa using this
    refine ⟨a, C, dx, ks, rfl, h1, c, n, by omega, ?_⟩
    obtain ⟨k1, k2⟩ := putF_rep (f := f) (r1.mono l2) ek rr
    obtain ⟨s3, l3⟩ := s2.write (c := .ins C (putFD f y fs)) (o := .ins C dx (putF f v ks)) ha ⟨dx, _, upd_same, k1, k2⟩
    exact ⟨ρ, _, m2, G2, q, (l1.trans l2).trans l3, s3, rs2.mono l3⟩
/-! ### methods -/
/-- the method m of the class at C keeps R -/
def HasM (P : Program) (w : World) (K : PySem.W.Frag) (mg : Str → Option Value) (base : Heap) (k : Nat) (C : Addr) (m : Str) (R : DSp) : Prop :=
  ∃ (f : Addr) (fd : FuncData) (ps : List Str), Meth K C m f ∧ Binds K fd ps [] ∧ FnOk P w K mg base (L2.CX P w) k f fd ps (lsp K R)
theorem HasM.mono {P : Program} {w : World} {K : PySem.W.Frag} {mg : Str → Option Value} {base : Heap} {j k : Nat} {C : Addr} {m : Str} {R : DSp} (h : HasM P w K mg base j C m R) (l : j ≤ k) : HasM P w K mg base k C m R := by
  obtain ⟨f, fd, ps, a, b, c⟩ := h
  exact ⟨f, fd, ps, a, b, c.mono l⟩
theorem we_meth {pl : Sem Bool} (C : Addr) (c : Cls X.K C) (M : HasM X.prog X.w X.K X.mg X.base k C mt R) (hr : Room k X.A)
    (h : WpE X ξ o ρ S fun d S1 => ∃ fs, InsD S1 d C fs ∧ fs.lookup mt = none ∧ WpA X ξ (e :: es) ρ S1 fun ds S2 => R (d :: ds) S2 Q fun C fs S' => ξ C fs ρ S')
    (hst : starEach (e :: es) X.env = (false, eval e X.env) :: starEach es X.env := by rfl) (hpl : (backTo pos (starEach es X.env)).any (·.1) = false := by rfl)
    (ht : eval (.Call (.Attribute o mt apos) (e :: es) [] pos) X.env = (do
      let ov ← eval o X.env
      standAt apos.atName
      let (f, first) ← holding [ov] (getMethod ov mt pl)
      callWith pos f first (backTo pos (starEach (e :: es) X.env)) (backToKw pos (keywordEach [] X.env))) := by rfl) : WpE X ξ (.Call (.Attribute o mt apos) (e :: es) [] pos) ρ S Q := by
  obtain ⟨f, fd, ps, hm, hb, F⟩ := M
  refine ⟨fun σ H m G s r pins sh I => ?_⟩
  refine PySem.W.methodCall_KW (pl := pl) (thn (h.use s r (Q' := fun v H1 => ∃ a dx ks fs d S1 m1 G1, v = .ref a ∧ H1 a = some (.ins C dx ks) ∧ ks.lookup mt = none ∧ Le m G H m1 G1 H1 ∧ SimX X ξ m1 G1 H1 S1 ∧ Rep X.K m1 G1 (.ref a) d ∧ RepSt X.K m1 G1 σ ρ ∧ InsD S1 d C fs ∧ WpA X ξ (e :: es) ρ S1 fun ds S2 => R (d :: ds) S2 Q fun C fs S' => ξ C fs ρ S')
    (fun v d H1 S1 m1 G1 ⟨fs, hi, hl, q⟩ l1 s1 r1 rs1 => by
      obtain ⟨a, dx, ks, rfl, ha, ek, rr⟩ := hi.rep s1.toSim r1
      refine ⟨a, dx, ks, fs, d, S1, m1, G1, rfl, ha, ?_, l1, s1, r1, rs1, hi, q⟩
      rcases lookup_rep (f := mt) ek rr with ⟨z, _⟩ | ⟨v, d', z1, z2, z3⟩
      · exact z
      · rw [hl] at z2; cases z2) pins sh I) fun u sh1 ⟨x, H1, I1, rx, a, dx, ks, fs, d, S1, m1, G1, ex, ea, l, l1, s1, r1, rs1, hi, q⟩ => ?_) ht
  subst ex
  obtain rfl : u = Value.ref a := rx
  refine getmeth_ok I1 ea c hm l ?_
  refine PySem.W.callWith_K (first := [.ref a]) (h₀ := X.base) I.ok.mod.kin hm.kp (thn ((uA (e :: es)).run pos pins sh1 σ H1 _ I1 (q.use s1 rs1 (Q' := fun vs H2 => lsp X.K R (.ref a :: vs) H2 (EvR X.K m G H Q) (WE (EvW X.K m G H ξ) σ)) fun vs ds H2 S2 m2 G2 q2 l2 s2 r2 rs2 =>
    ⟨m2, G2, S2, d :: ds, Q, fun C fs S' => ξ C fs ρ S', s2, .cons (r1.mono l2) r2, q2, fun v H' z => z.back (l1.trans l2), fun cls d H' ⟨C, fs, S', m', G', e, z, l', s', x⟩ => ⟨C, fs, ρ, S', m', G', e, z, (l1.trans l2).trans l', s', rs2.mono l', x⟩⟩)) fun us sh2 ⟨vs, H2, I2, r, q2⟩ => ⟨I2.kIn, ?_⟩) hst hpl
  exact run_fnS (E := WE (EvW X.K m G H ξ)) (us := .ref a :: us) (vs := .ref a :: vs) F hr hb (passAt s.xo σ) I2 (.cons rfl r) q2
theorem we_meth0 {pl : Sem Bool} (C : Addr) (c : Cls X.K C) (M : HasM X.prog X.w X.K X.mg X.base k C mt R) (hr : Room k X.A)
    (h : WpE X ξ o ρ S fun d S1 => ∃ fs, InsD S1 d C fs ∧ fs.lookup mt = none ∧ R [d] S1 Q fun C fs S' => ξ C fs ρ S')
    (ht : eval (.Call (.Attribute o mt apos) [] [] pos) X.env = (do
      let ov ← eval o X.env
      standAt apos.atName
      let (f, first) ← holding [ov] (getMethod ov mt pl)
      callWith pos f first (backTo pos (starEach [] X.env)) (backToKw pos (keywordEach [] X.env))) := by rfl) : WpE X ξ (.Call (.Attribute o mt apos) [] [] pos) ρ S Q := by
  obtain ⟨f, fd, ps, hm, hb, F⟩ := M
  refine ⟨fun σ H m G s r pins sh I => ?_⟩
  refine PySem.W.methodCall_KW (pl := pl) (thn (h.use s r (Q' := fun v H1 => ∃ a dx ks, v = .ref a ∧ H1 a = some (.ins C dx ks) ∧ ks.lookup mt = none ∧ lsp X.K R [.ref a] H1 (EvR X.K m G H Q) (WE (EvW X.K m G H ξ) σ))
    (fun v d H1 S1 m1 G1 ⟨fs, hi, hl, q⟩ l1 s1 r1 rs1 => by
      obtain ⟨a, dx, ks, rfl, ha, ek, rr⟩ := hi.rep s1.toSim r1
      refine ⟨a, dx, ks, rfl, ha, ?_, ⟨m1, G1, S1, [d], Q, fun C fs S' => ξ C fs ρ S', s1, .cons r1 .nil, q, fun v H' z => z.back l1, fun cls d H' ⟨C, fs, S', m', G', e, z, l', s', x⟩ => ⟨C, fs, ρ, S', m', G', e, z, l1.trans l', s', rs1.mono l', x⟩⟩⟩
      rcases lookup_rep (f := mt) ek rr with ⟨z, _⟩ | ⟨v, d', z1, z2, z3⟩
      · exact z
      · rw [hl] at z2; cases z2) pins sh I) fun u sh1 ⟨x, H1, I1, rx, a, dx, ks, ex, ea, l, q⟩ => ?_) ht
  subst ex
  obtain rfl : u = Value.ref a := rx
  refine getmeth_ok I1 ea c hm l ?_
  exact PySem.W.callWith_K0 (first := [.ref a]) I1.kIn hm.kp (run_fnS (E := WE (EvW X.K m G H ξ)) (us := [.ref a]) (vs := [.ref a]) F hr hb (passAt s.xo σ) I1 (.cons rfl .nil) q)
end
end Dl

set_option linter.all false
set_option maxRecDepth 100000
set_option maxHeartbeats 4000000
set_option autoImplicit false
namespace Dl
open PySem L2 PySem.Spec PyProof.Rows
/-! ### classes of errors as the top leaves them -/
theorem oexC_mk {K : PySem.W.Frag} {C N : Addr} {nm q : Str} {bs bm : List Value} {sn : List Str} {sub : List Value} {ab : Bool} {col : Option Bool} {dd : Option Addr} {k0 k1 k2 k3 k5 : Option Value}
    (l : K.lookup C = some (excClassObj nm q C N bs bm true sn sub ab col dd k0 k1 k2 k3 k5 "ValueError.__new__")) (rv : PySem.HandSPX.refsVE bm = true) (sa : PySem.W.findIn K (.ref C) "__setattr__" = some (some (.builtin "object.__setattr__")))
    (e : PySem.W.subIn K (.ref C) (.type "BaseException") = some true) (t : PySem.W.typeIn K (.ref C) = some (.type "type")) (k : PySem.W.keepIn K (.ref C) = true) : OexC K C :=
  ⟨⟨nm, q, N, bs, bm, sn, sub, ab, col, dd, k0, k1, k2, k3, k5, l, rv⟩, sa, e, t, k⟩
theorem xcC_mk {K : PySem.W.Frag} {h : Heap} {mg : Str → Option Value} {x : Str} {C : Addr} (X : K.In h) (G : h.Ns mainGlobals mg) (a : PySem.W.nsIn K mainGlobals x = some (some (.ref C)))
    (ex : PySem.W.excIn K C [.type "ValueError", .type "Exception", .type "BaseException", .type "object"] "ValueError.__new__" = true) (k : PySem.W.keepIn K (.ref C) = true) (s : PySem.W.subIn K (.ref C) (.type "BaseException") = some true) (t : PySem.W.typeIn K (.ref C) = some (.type "type")) : XcC K mg x C :=
  ⟨ex, PySem.W.mg_of X G a, k, s, t⟩
def excB (K : PySem.W.Frag) (D : Addr) : Bool := decide (PySem.W.findIn K (.ref D) "__getattribute__" = some (some (.builtin "BaseException.__getattribute__"))) && (decide (PySem.W.findIn K (.ref D) "__getattr__" = some none) && (decide (PySem.W.subIn K (.ref D) (.type "BaseException") = some true) &&
  (PySem.W.hasDictIn K D && (decide (PySem.W.findIn K (.ref D) "__class__" = some (some (.builtin "object.__class__"))) && (decide (PySem.W.specialIn K (.builtin "object.__class__") "__get__" = some (some (.builtin "getset_descriptor.__get__"))) &&
  (decide (PySem.W.takesIn K (.builtin "object.__class__") = some true) && decide (PySem.W.mroIn K D (.type "object") = some true)))))))
theorem excB_ok {K : PySem.W.Frag} {D : Addr} (h : excB K D = true) : ExcC K D := by
  obtain ⟨h1, h⟩ := Bool.and_eq_true_iff.mp h
  obtain ⟨h2, h⟩ := Bool.and_eq_true_iff.mp h
  obtain ⟨h3, h⟩ := Bool.and_eq_true_iff.mp h
  obtain ⟨h4, h⟩ := Bool.and_eq_true_iff.mp h
  obtain ⟨h5, h⟩ := Bool.and_eq_true_iff.mp h
  obtain ⟨h6, h⟩ := Bool.and_eq_true_iff.mp h
  obtain ⟨h7, h8⟩ := Bool.and_eq_true_iff.mp h
  exact ⟨of_decide_eq_true h1, of_decide_eq_true h2, of_decide_eq_true h3, h4, of_decide_eq_true h5, of_decide_eq_true h6, of_decide_eq_true h7, of_decide_eq_true h8⟩
/-- the class B is asked for __init__ and answers with ValueError's -/
structure HiB (K : PySem.W.Frag) (mg : Str → Option Value) (b : Str) (B : Addr) : Prop where
  g : mg b = some (.ref B)
  ga : PySem.W.specialIn K (.ref B) "__getattribute__" = some (some (.builtin "type.__getattribute__"))
  rd : PySem.W.readsIn K B (.type "type") = true
  at_ : PySem.W.findCls K (.ref B) (.type "type") "__init__" = some (.val (.builtin "ValueError.__init__"))
section
variable {P : Program} {w : World} {K : PySem.W.Frag} {mg : Str → Option Value} {base : Heap}
/-- the def __init__(self, y): B.__init__(self, 'm'); self.f = y -/
theorem init_ok {st : Stmt} {b f self y m qual : Str} {C B fI : Addr} {fd : FuncData} {j : Nat} {p1 p2 p3 p4 p5 p6 p7 p8 p9 p10 : Pos} {pl : PySem.Env → Sem Bool} (F : Fun K "__init__" qual st fI fd) (Z : HiB K mg b B) (T : OexC K C) (hno : PySem.W.findIn K (.ref C) f = some none)
    (Sc : FnScope [self, y] [self, y] (defScope st))
    (hb : defBody st = [.Expr (.Call (.Attribute (.Name b p1) "__init__" p2) [.Name self p3, .Constant (.str m) j p4] [] p5) p6, .Assign [.Attribute (.Name self p7) f p8] (.Name y p9) p10])
    (hc : ∀ env : PySem.Env, eval (.Call (.Attribute (.Name b p1) "__init__" p2) [.Name self p3, .Constant (.str m) j p4] [] p5) env = (do
      let ov ← eval (.Name b p1) env
      standAt p2.atName
      let (f, first) ← holding [ov] (getMethod ov "__init__" (pl env))
      callWith p5 f first (backTo p5 (starEach [.Name self p3, .Constant (.str m) j p4] env)) (backToKw p5 (keywordEach [] env))))
    (v0 : Vis (defScope st) self) (v1 : Vis (defScope st) y) (hgl : (defScope st).names.lookup b = some .globalImplicit)
    (n0 : (self == ("__debug__" : Str)) = false) (n1 : (self == ("__classdict__" : Str)) = false) (n2 : (y == ("__debug__" : Str)) = false) (n3 : (y == ("__classdict__" : Str)) = false) (n4 : (b == ("__debug__" : Str)) = false) :
    FnOk P w K mg base (L2.CX P w) 1 fI fd [self, y] (spXi K C f) := by
  refine F.okX Sc (fun vs H Q E ⟨a, v, e, _⟩ => by rw [e]; rfl) fun cdv A outer s H vs Q E hr ⟨a, v, e, ha, q⟩ => ?_
  subst e
  rw [hb]
  refine ⟨_, pss_cons (ps_expr (pe_hinit (mc := .type "type") (by exact hgl) Z.g Z.ga Z.rd Z.at_ n4 (pa_cons (pe_var (i := 0) rfl v0 n0 n1) (pa_cons pe_str pa_nil)) (hc _))) (pss_one (ps_ost (pe_var (i := 0) rfl v0 n0 n1) (pe_var (i := 1) rfl v1 n2 n3))), ?_⟩
  refine ⟨.ref a, rfl, a, C, [.str m], rfl, (show 1 ≤ 1000 by decide), T, ha, ?_⟩
  exact ⟨v, rfl, .ref a, rfl, a, C, rfl, T, hno, .inl ⟨ha, fun dx h1 h2 => q dx h1 h2⟩⟩
end
end Dl

set_option linter.all false
set_option maxRecDepth 100000
set_option maxHeartbeats 4000000
set_option autoImplicit false
namespace Dl
open PySem L2 PySem.Spec PyProof.Rows
theorem xfI_mk {P : Program} {w : World} {K : PySem.W.Frag} {mg : Str → Option Value} {base h : Heap} {x : Str} {C N fI B : Addr} {nm q : Str} {bs bm : List Value} {sn : List Str} {sub : List Value} {ab : Bool} {col : Option Bool} {dd : Option Addr} {k0 k1 k2 k3 k5 : Option Value}
    {oc : Value} {od an : Option Addr} {osl : Array (Option Value)} {kV doc pm cdv ct : Value} {st : Stmt} {b f self y m qual : Str} {j : Nat} {p1 p2 p3 p4 p5 p6 p7 p8 p9 p10 : Pos} {pl : PySem.Env → Sem Bool} (X : K.In h) (G : h.Ns mainGlobals mg)
    (a : PySem.W.nsIn K mainGlobals x = some (some (.ref C))) (l : K.lookup C = some (excClassObj nm q C N bs bm true sn sub ab col dd k0 k1 k2 k3 k5 "ValueError.__new__")) (rv : PySem.HandSPX.refsVE bm = true) (sa : PySem.W.findIn K (.ref C) "__setattr__" = some (some (.builtin "object.__setattr__")))
    (e : PySem.W.subIn K (.ref C) (.type "BaseException") = some true) (t : PySem.W.typeIn K (.ref C) = some (.type "type")) (k : PySem.W.keepIn K (.ref C) = true)
    (ic : PySem.W.findIn K (.ref C) "__init__" = some (some (.ref fI))) (ti : PySem.W.typeIn K (.ref fI) = some (.type "function")) (fl : K.lookup fI = some ⟨oc, od, .func (PySem.W.fnOf "__init__" qual (defArgs st) (defBody st) (defScope st) .none kV doc pm an cdv ct), osl⟩)
    (fc : PySem.W.codeIn K cdv qual = true) (fk : PySem.W.keepIn K (.ref fI) = true) (hno : PySem.W.findIn K (.ref C) f = some none) (Z : HiB K mg b B) (Sc : FnScope [self, y] [self, y] (defScope st))
    (hb : defBody st = [.Expr (.Call (.Attribute (.Name b p1) "__init__" p2) [.Name self p3, .Constant (.str m) j p4] [] p5) p6, .Assign [.Attribute (.Name self p7) f p8] (.Name y p9) p10])
    (hc : ∀ env : PySem.Env, eval (.Call (.Attribute (.Name b p1) "__init__" p2) [.Name self p3, .Constant (.str m) j p4] [] p5) env = (do
      let ov ← eval (.Name b p1) env
      standAt p2.atName
      let (f, first) ← holding [ov] (getMethod ov "__init__" (pl env))
      callWith p5 f first (backTo p5 (starEach [.Name self p3, .Constant (.str m) j p4] env)) (backToKw p5 (keywordEach [] env))))
    (bb : ∀ (kV doc pm : Value) (an : Option Addr) (cdv ct : Value) (us : List Value), us.length = 2 → bindArgs (PySem.W.fnOf "__init__" qual (defArgs st) (defBody st) (defScope st) .none kV doc pm an cdv ct) ⟨us, []⟩ = pure ([self, y].zip us))
    (v0 : Vis (defScope st) self) (v1 : Vis (defScope st) y) (hgl : (defScope st).names.lookup b = some .globalImplicit)
    (n0 : (self == ("__debug__" : Str)) = false) (n1 : (self == ("__classdict__" : Str)) = false) (n2 : (y == ("__debug__" : Str)) = false) (n3 : (y == ("__classdict__" : Str)) = false) (n4 : (b == ("__debug__" : Str)) = false) : XfI P w K mg base x f C :=
  ⟨oexC_mk l rv sa e t k, PySem.W.mg_of X G a, fI, _, [self, y], ic, ti, .all (fun us hl => bb kV doc pm an cdv ct us hl), init_ok (fun_mk fl fc fk) Z (oexC_mk l rv sa e t k) hno Sc hb hc v0 v1 hgl n0 n1 n2 n3 n4⟩
theorem hiB_mk {K : PySem.W.Frag} {mg : Str → Option Value} {h : Heap} {b : Str} {B : Addr} (X : K.In h) (G : h.Ns mainGlobals mg) (a : PySem.W.nsIn K mainGlobals b = some (some (.ref B))) (ga : PySem.W.specialIn K (.ref B) "__getattribute__" = some (some (.builtin "type.__getattribute__")))
    (rd : PySem.W.readsIn K B (.type "type") = true) (at_ : PySem.W.findCls K (.ref B) (.type "type") "__init__" = some (.val (.builtin "ValueError.__init__"))) : HiB K mg b B := ⟨PySem.W.mg_of X G a, ga, rd, at_⟩
/-- what the classes of errors at L answer to isinstance and to except CH -/
def errsB (K : PySem.W.Frag) (CH : Addr) (n : Nat) (L : List Addr) : Bool := ((List.range n).all fun i => (List.range n).all fun j => decide (PySem.W.kitOne K (.ref (L.getD i 0)) (.ref (L.getD j 0)) = some (decide (i = j)))) &&
  (((List.range n).all fun i => decide (PySem.W.kitOne K (.ref (L.getD i 0)) (.type "ValueError") = some true)) && (((List.range n).all fun i => decide (PySem.W.exmOne K (.ref (L.getD i 0)) (.ref CH) = some true)) && ((List.range n).all fun i => excB K (L.getD i 0))))
theorem errsB_ok {K : PySem.W.Frag} {CH : Addr} {n : Nat} {L : List Addr} (h : errsB K CH n L = true) :
    (∀ i j, i < n → j < n → PySem.W.kitOne K (.ref (L.getD i 0)) (.ref (L.getD j 0)) = some (decide (i = j))) ∧ (∀ i, i < n → PySem.W.kitOne K (.ref (L.getD i 0)) (.type "ValueError") = some true) ∧
    (∀ i, i < n → PySem.W.exmOne K (.ref (L.getD i 0)) (.ref CH) = some true) ∧ ∀ i, i < n → ExcC K (L.getD i 0) := by
  obtain ⟨h1, h⟩ := Bool.and_eq_true_iff.mp h
  obtain ⟨h2, h⟩ := Bool.and_eq_true_iff.mp h
  obtain ⟨h3, h4⟩ := Bool.and_eq_true_iff.mp h
  exact ⟨fun i j hi hj => of_decide_eq_true (List.all_eq_true.mp (List.all_eq_true.mp h1 i (List.mem_range.mpr hi)) j (List.mem_range.mpr hj)), fun i hi => of_decide_eq_true (List.all_eq_true.mp h2 i (List.mem_range.mpr hi)),
    fun i hi => of_decide_eq_true (List.all_eq_true.mp h3 i (List.mem_range.mpr hi)), fun i hi => excB_ok (List.all_eq_true.mp h4 i (List.mem_range.mpr hi))⟩
end Dl

set_option linter.all false
set_option maxRecDepth 100000
set_option maxHeartbeats 4000000
set_option autoImplicit false
/-! the end: a law by the layer -/
namespace Dl
open PySem L2 PyProof.Rows
/-- the law's def -/
def LawAt (K : PySem.W.Frag) (st : Stmt) (x : Str) (fa : Addr) : Prop := ∃ fd : FuncData, Fun K "law" "law" st fa fd ∧ ∀ (s : Shared) (v : Value), BindsTo s fd ⟨[v], []⟩ [(x, v)]
theorem lawAt_mk {K : PySem.W.Frag} {h : Heap} {mg : Str → Option Value} {x : Str} {st : Stmt} {f fa : Addr} {oc : Value} {od an : Option Addr} {osl : Array (Option Value)} {kV doc pm cdv ct : Value} (X : K.In h) (G : h.Ns mainGlobals mg) (hfa : mg "law" = some (.ref fa))
    (a : PySem.W.nsIn K mainGlobals "law" = some (some (.ref f))) (l : K.lookup f = some ⟨oc, od, .func (PySem.W.fnOf "law" "law" (defArgs st) (defBody st) (defScope st) .none kV doc pm an cdv ct), osl⟩) (c : PySem.W.codeIn K cdv "law" = true) (k : PySem.W.keepIn K (.ref f) = true)
    (b : ∀ (kV doc pm : Value) (an : Option Addr) (cdv ct : Value) (s : Shared) (v : Value), BindsTo s (PySem.W.fnOf "law" "law" (defArgs st) (defBody st) (defScope st) .none kV doc pm an cdv ct) ⟨[v], []⟩ [(x, v)]) : LawAt K st x fa := by
  have e := hfa.symm.trans (PySem.W.mg_of X G a)
  cases e
  exact ⟨_, fun_mk l c k, fun s v => b kV doc pm an cdv ct s v⟩
theorem law_end {l : PySem.W.OpenLaw} {n k : Nat} {q : Program} {loose : List Str} {XP : (Str → Option Value) → Heap → Prop} {YP : World → Heap → Prop} {d : DefRec} {K : Params → PySem.W.Frag} {x : Str} {st : Stmt} {R : DSp}
    (hn : l.most = some n) (hn2 : n ≤ sizeLine) (hdf : d.params.defaults = []) (hr : Room k callerA)
    (hY : ∀ (w : World) (h : Heap), YP w h → (K w.params).In h)
    (hR : ∀ (ns : List Int) (S : Store) (Q : D → Store → Prop) (E : ExD), ns.length ≤ n → Q (.bl true) S → R [.klst (ns.map .int)] S Q E)
    (F : ∀ (w : World) (mg : Str → Option Value) (fa : Addr) (h : Heap), (K w.params).In h → h.Ns mainGlobals mg → mg d.name = some (.ref fa) →
      LawAt (K w.params) st x fa ∧ ∀ (fd : FuncData) (base : Heap), Fun (K w.params) "law" "law" st fa fd → FnOk l.prog w (K w.params) mg base (L2.CX l.prog w) k fa fd [x] (lsp (K w.params) R)) :
    PySem.W.WalkO q loose XP YP l.row.toRowW d [] (fun f vs => PySem.call f vs) :=
  L2.walk_of (n := n) (k := k) (x := x) (CX := fun w => L2.CX l.prog w) (sp := fun w => lsp (K w.params) R) hn hn2 hdf hr hY
    (fun w mg fa h X G hm => by
      obtain ⟨⟨fd, F1, hb⟩, h2⟩ := F w mg fa h X G hm
      exact ⟨fd, hb, fun base _ _ => h2 fd base F1⟩)
    (fun w H a ns hl hO hS => ⟨[], H, [], [.klst (ns.map .int)], fun d _ => d = .bl true, fun _ _ _ => False, ⟨fun _ _ h => h, rfl, List.nodup_nil, fun _ h => (by cases h), fun _ _ _ h => (by cases h)⟩, .cons (.klst hS (Reps.of_ints ns)) .nil, hR ns [] _ _ hl rfl, fun v H' ⟨d, S', m', G', e, _, _, r⟩ => by
      subst e
      exact r.bl_, fun C d H' ⟨_, _, _, _, _, _, z, _⟩ => z.elim⟩)
    fun _ _ _ _ _ ⟨_, _, _, _, _, _, _, _, _, _, _, _, z⟩ => z.elim
/-! ### constants of the module -/
section
variable {K : PySem.W.Frag} {h : Heap} {mg : Str → Option Value} {x : Str}
def absD : Value → Option D
  | .none => some .non
  | .bool b => some (.bl b)
  | .int i _ => some (.int i)
  | .str s _ => some (.str s)
  | _ => none
def absDs : List Value → Option (List D)
  | [] => some []
  | v :: vs => match absD v, absDs vs with
    | some d, some ds => some (d :: ds)
    | _, _ => none
theorem absD_rep {m : List Addr} {G : Hp} {u : Value} {d : D} (e : absD u = some d) : ∃ v, RelV v u ∧ ∀ m G, Rep K m G v d := by
  cases u <;> first | (cases e; done) | skip
  · cases e; exact ⟨.non, rfl, fun _ _ => .non⟩
  · cases e; exact ⟨.bl _, rfl, fun _ _ => .bl _⟩
  · cases e; exact ⟨.int _, ⟨_, rfl⟩, fun _ _ => .int _⟩
  · cases e; exact ⟨.str _, ⟨_, rfl⟩, fun _ _ => .str _⟩
theorem absDs_rep : ∀ {us : List Value} {ds : List D}, absDs us = some ds → ∃ vs, Vals vs us ∧ ∀ m G, Reps K m G vs ds
  | [], ds, e => by cases e; exact ⟨[], .nil, fun _ _ => .nil⟩
  | u :: us, ds, e => by
    unfold absDs at e
    cases e1 : absD u with
    | none => rw [e1] at e; cases e
    | some d =>
      cases e2 : absDs us with
      | none => rw [e1, e2] at e; cases e
      | some ds' =>
        rw [e1, e2] at e
        cases e
        obtain ⟨v, r, k⟩ := absD_rep (K := K) (m := []) (G := fun _ => none) e1
        obtain ⟨vs, rs, ks⟩ := absDs_rep e2
        exact ⟨v :: vs, .cons r rs, fun m G => .cons (k m G) (ks m G)⟩
theorem glob_val {u : Value} {d : D} (X : K.In h) (G : h.Ns mainGlobals mg) (a : PySem.W.nsIn K mainGlobals x = some (some u)) (e : absD u = some d) : GlobC K mg x d :=
  ⟨u, PySem.W.mg_of X G a, absD_rep (m := []) (G := fun _ => none) e⟩
theorem glob_tup {a : Addr} {dd : Option Addr} {its : Array Value} {n : Nat} {sl : Array (Option Value)} {ds : List D} (X : K.In h) (G : h.Ns mainGlobals mg) (e : PySem.W.nsIn K mainGlobals x = some (some (.ref a)))
    (l : K.lookup a = some ⟨.type "tuple", dd, .seq its n, sl⟩) (hz : its.size ≤ 1000) (r : absDs its.toList = some ds) : GlobC K mg x (.tup ds) := by
  obtain ⟨vs, rs, ks⟩ := absDs_rep (K := K) r
  exact ⟨_, PySem.W.mg_of X G e, .ref a, rfl, fun m G => .tup (.inr ⟨_, its, n, l, rfl, rfl, Nat.le_trans hz (by rw [sizeLine_eq]; decide), rs⟩) (ks m G)⟩
theorem glob_no (X : K.In h) (G : h.Ns mainGlobals mg) (a : PySem.W.nsIn K mainGlobals x = some none) : mg x = none := PySem.W.mg_none_of X G a
end
end Dl

set_option linter.all false
set_option maxRecDepth 100000
set_option maxHeartbeats 400000
set_option autoImplicit false
namespace K16
open PySem L2 Dl
def top (i : Nat) : Stmt := PySem.Challenge.pw_tiehall_k16_refusals.main.body.getD i (.Pass ⟨0, 0, 0, 0⟩)
abbrev s_BadRow : Stmt := inClass (top 2) 0
abbrev s_BadCond : Stmt := inClass (top 3) 0
abbrev s_BadRoad : Stmt := inClass (top 4) 0
abbrev s_BadQuestion : Stmt := inClass (top 5) 0
theorem sc_BadRow : FnScope ["self", "line"] ["self", "line"] (defScope s_BadRow) := ⟨rfl, rfl, rfl, by decide +kernel, rfl, by decide +kernel, by decide +kernel⟩
theorem sc_BadCond : FnScope ["self", "place"] ["self", "place"] (defScope s_BadCond) := ⟨rfl, rfl, rfl, by decide +kernel, rfl, by decide +kernel, by decide +kernel⟩
theorem sc_BadRoad : FnScope ["self", "place"] ["self", "place"] (defScope s_BadRoad) := ⟨rfl, rfl, rfl, by decide +kernel, rfl, by decide +kernel, by decide +kernel⟩
theorem sc_BadQuestion : FnScope ["self", "line"] ["self", "line"] (defScope s_BadQuestion) := ⟨rfl, rfl, rfl, by decide +kernel, rfl, by decide +kernel, by decide +kernel⟩
abbrev s_l_mixed : Stmt := top 16
theorem sc_l_mixed : FnScope ["_law_cell", "_law_k", "_law_mixed_here"] ["_law_cell", "_law_k"] (defScope s_l_mixed) := ⟨rfl, rfl, rfl, by decide +kernel, rfl, by decide +kernel, by decide +kernel⟩
abbrev s_l_raise : Stmt := top 17
theorem sc_l_raise : FnScope ["_law_way", "_law_number"] ["_law_way", "_law_number"] (defScope s_l_raise) := ⟨rfl, rfl, rfl, by decide +kernel, rfl, by decide +kernel, by decide +kernel⟩
abbrev s_l_marks : Stmt := top 18
theorem sc_l_marks : FnScope ["_law_e", "_law_found"] ["_law_e"] (defScope s_l_marks) := ⟨rfl, rfl, rfl, by decide +kernel, rfl, by decide +kernel, by decide +kernel⟩
abbrev s_l_raised : Stmt := top 19
theorem sc_l_raised : FnScope ["_law_way", "_law_number", "_law_found", "_law_e"] ["_law_way", "_law_number"] (defScope s_l_raised) := ⟨rfl, rfl, rfl, by decide +kernel, rfl, by decide +kernel, by decide +kernel⟩
abbrev s_law : Stmt := top 20
theorem sc_law : FnScope ["_law_script", "_law_k", "_law_cell", "_law_x", "_law_number", "_law_e", "_law_way"] ["_law_script"] (defScope s_law) := ⟨rfl, rfl, rfl, by decide +kernel, rfl, by decide +kernel, by decide +kernel⟩
def mixed (c k : Int) : Int := (c + 7919 * k + 31) * 48271 % 2147483647 * ((c + 7919 * k + 31) * 48271 % 2147483647 % 65537 + k + 1) % 2147483647
/-- the fields of the error of way w -/
def fsOf (w n : Int) : List (Str × D) := if w = 9 then [("line", .int n)] else if w = 10 then [("place", .int n)] else if w = 11 then [("place", .int n)] else if w = 12 then [("line", .int n)] else []
structure Txt (P : Program) (w : World) (K : PySem.W.Frag) (mg : Str → Option Value) (base : Heap) (CH : Addr) (Cs : Nat → Addr) : Prop where
  b_isinstance : mg "isinstance" = none
  b_enumerate : mg "enumerate" = none
  b_range : mg "range" = none
  b_ValueError : mg "ValueError" = none
  gH : mg "HallError" = some (.ref CH)
  r0 : XcC K mg "BadName" (Cs 0)
  r1 : XcC K mg "BadNumber" (Cs 1)
  r2 : XcC K mg "NoPlace" (Cs 2)
  r3 : XcC K mg "NoTie" (Cs 3)
  r4 : XcC K mg "Twice" (Cs 4)
  r5 : XcC K mg "HasTies" (Cs 5)
  r6 : XcC K mg "TooMany" (Cs 6)
  r7 : XcC K mg "NoPlan" (Cs 7)
  r8 : XcC K mg "BadDesk" (Cs 8)
  r9 : XfI P w K mg base "BadRow" "line" (Cs 9)
  r10 : XfI P w K mg base "BadCond" "place" (Cs 10)
  r11 : XfI P w K mg base "BadRoad" "place" (Cs 11)
  r12 : XfI P w K mg base "BadQuestion" "line" (Cs 12)
  kit : ∀ i j, i < 13 → j < 13 → PySem.W.kitOne K (.ref (Cs i)) (.ref (Cs j)) = some (decide (i = j))
  kitV : ∀ i, i < 13 → PySem.W.kitOne K (.ref (Cs i)) (.type "ValueError") = some true
  exm : ∀ i, i < 13 → PySem.W.exmOne K (.ref (Cs i)) (.ref CH) = some true
  exc : ∀ i, i < 13 → ExcC K (Cs i)
  xf : ∀ i, 9 ≤ i → i < 13 → XfC K (Cs i)
  n9 : NoAttr K (Cs 9) "line"
  n10 : NoAttr K (Cs 10) "place"
  n11 : NoAttr K (Cs 11) "place"
  n12 : NoAttr K (Cs 12) "line"
  d_l_mixed : DefAt K mg "_law_mixed" "_law_mixed" s_l_mixed ["_law_cell", "_law_k"]
  d_l_raise : DefAt K mg "_law_raise" "_law_raise" s_l_raise ["_law_way", "_law_number"]
  d_l_marks : DefAt K mg "_law_marks" "_law_marks" s_l_marks ["_law_e"]
  d_l_raised : DefAt K mg "_law_raised" "_law_raised" s_l_raised ["_law_way", "_law_number"]
theorem globR {K : PySem.W.Frag} {mg : Str → Option Value} {x : Str} {C : Addr} (h : mg x = some (.ref C)) : GlobC K mg x (.ref C) := ⟨_, h, .ref C, rfl, fun _ _ => .ref C⟩
def spMixed : DSp := fun ds S Q _ => ∃ c k : Int, ds = [.int c, .int k] ∧ Q (.int (mixed c k)) S
def spRaise (Cs : Nat → Addr) : DSp := fun ds S _ E => ∃ w n : Int, ds = [.int w, .int n] ∧ 0 ≤ w ∧ w < 13 ∧ E (Cs w.toNat) (fsOf w n) S
def spMarks (Cs : Nat → Addr) : DSp := fun ds S Q _ => ∃ (w : Nat) (fs : List (Str × D)), ds = [.exc (Cs w) fs] ∧ w < 13 ∧ Q (.lst ((List.range 13).map fun i => .bl (decide (w = i)))) S
def spRaised (Cs : Nat → Addr) : DSp := fun ds S Q _ => ∃ w n : Int, ds = [.int w, .int n] ∧ 0 ≤ w ∧ w < 13 ∧ Q (.exc (Cs w.toNat) (fsOf w n)) S
local macro_rules | `(tactic| walk_at "sz") => `(tactic| refine ⟨(by simp [PySem.sizeLine_eq]), ?_⟩)
local macro_rules | `(tactic| walk_at "mod") => `(tactic| refine ⟨(by first | decide | omega), ?_⟩)
local macro_rules | `(tactic| walk_at "mul") => `(tactic| refine ⟨(by first | exact Or.inr ⟨by decide, by decide⟩ | exact Or.inl ⟨by decide, by decide⟩ | exact Or.inl ⟨by omega, by omega⟩ | exact Or.inr ⟨by omega, by omega⟩), ?_⟩)
section
variable {P : Program} {w : World} {K : PySem.W.Frag} {mg : Str → Option Value} {base : Heap} {CH : Addr} {Cs : Nat → Addr}
theorem ok_mixed (T : Txt P w K mg base CH Cs) : HasFn P w K mg base 1 "_law_mixed" spMixed := by
  refine T.d_l_mixed.ok sc_l_mixed (fun ds S Q E ⟨s, z, e, _⟩ => by subst e; rfl) fun f cdv A outer sh H E hr ds S Q E' ⟨c, k, e, q⟩ => ?_
  subst e
  have nd := sc_l_mixed.nd
  refine wb_cons (ws_set 2 ?_ nd)
  refine we_mod ?_
  refine we_mul ?_
  refine we_add ?_
  refine we_add ?_
  refine we_name 0 ?_
  refine we_mul ?_
  refine we_int ?_
  refine we_name 1 ?_
  walk_at "mul"
  refine we_int ?_
  refine we_int ?_
  walk_at "mul"
  refine we_int ?_
  walk_at "mod"
  refine wb_one (ws_ret ?_)
  refine we_mod ?_
  refine we_mul ?_
  refine we_name 2 ?_
  refine we_add ?_
  refine we_add ?_
  refine we_mod ?_
  refine we_name 2 ?_
  refine we_int ?_
  walk_at "mod"
  refine we_name 1 ?_
  refine we_int ?_
  walk_at "mul"
  refine we_int ?_
  walk_at "mod"
  exact q
theorem ok_raise (T : Txt P w K mg base CH Cs) : HasFn P w K mg base 3 "_law_raise" (spRaise Cs) := by
  refine T.d_l_raise.ok sc_l_raise (fun ds S Q E ⟨s, z, e, _⟩ => by subst e; rfl) fun f cdv A outer sh H E hr ds S Q E' ⟨wy, n, e, h0, h1, q⟩ => ?_
  subst e
  have hu64 := hr.units
  refine wb_cons (ws_if ?_)
  refine wt_eq hu64 ?_
  refine we_name 0 ?_
  refine we_int ?_
  refine dEq_int ?_
  refine ⟨_, rfl, ?_⟩
  refine br (fun h => ?_) (fun h0 => ?_)
  · subst h
    exact wb_one (ws_raise T.r0 rfl q)
  refine wb_nil ?_
  refine wb_cons (ws_if ?_)
  refine wt_eq hu64 ?_
  refine we_name 0 ?_
  refine we_int ?_
  refine dEq_int ?_
  refine ⟨_, rfl, ?_⟩
  refine br (fun h => ?_) (fun h1 => ?_)
  · subst h
    exact wb_one (ws_raise T.r1 rfl q)
  refine wb_nil ?_
  refine wb_cons (ws_if ?_)
  refine wt_eq hu64 ?_
  refine we_name 0 ?_
  refine we_int ?_
  refine dEq_int ?_
  refine ⟨_, rfl, ?_⟩
  refine br (fun h => ?_) (fun h2 => ?_)
  · subst h
    exact wb_one (ws_raise T.r2 rfl q)
  refine wb_nil ?_
  refine wb_cons (ws_if ?_)
  refine wt_eq hu64 ?_
  refine we_name 0 ?_
  refine we_int ?_
  refine dEq_int ?_
  refine ⟨_, rfl, ?_⟩
  refine br (fun h => ?_) (fun h3 => ?_)
  · subst h
    exact wb_one (ws_raise T.r3 rfl q)
  refine wb_nil ?_
  refine wb_cons (ws_if ?_)
  refine wt_eq hu64 ?_
  refine we_name 0 ?_
  refine we_int ?_
  refine dEq_int ?_
  refine ⟨_, rfl, ?_⟩
  refine br (fun h => ?_) (fun h4 => ?_)
  · subst h
    exact wb_one (ws_raise T.r4 rfl q)
  refine wb_nil ?_
  refine wb_cons (ws_if ?_)
  refine wt_eq hu64 ?_
  refine we_name 0 ?_
  refine we_int ?_
  refine dEq_int ?_
  refine ⟨_, rfl, ?_⟩
  refine br (fun h => ?_) (fun h5 => ?_)
  · subst h
    exact wb_one (ws_raise T.r5 rfl q)
  refine wb_nil ?_
  refine wb_cons (ws_if ?_)
  refine wt_eq hu64 ?_
  refine we_name 0 ?_
  refine we_int ?_
  refine dEq_int ?_
  refine ⟨_, rfl, ?_⟩
  refine br (fun h => ?_) (fun h6 => ?_)
  · subst h
    exact wb_one (ws_raise T.r6 rfl q)
  refine wb_nil ?_
  refine wb_cons (ws_if ?_)
  refine wt_eq hu64 ?_
  refine we_name 0 ?_
  refine we_int ?_
  refine dEq_int ?_
  refine ⟨_, rfl, ?_⟩
  refine br (fun h => ?_) (fun h7 => ?_)
  · subst h
    exact wb_one (ws_raise T.r7 rfl q)
  refine wb_nil ?_
  refine wb_cons (ws_if ?_)
  refine wt_eq hu64 ?_
  refine we_name 0 ?_
  refine we_int ?_
  refine dEq_int ?_
  refine ⟨_, rfl, ?_⟩
  refine br (fun h => ?_) (fun h8 => ?_)
  · subst h
    exact wb_one (ws_raise T.r8 rfl q)
  refine wb_nil ?_
  refine wb_cons (ws_if ?_)
  refine wt_eq hu64 ?_
  refine we_name 0 ?_
  refine we_int ?_
  refine dEq_int ?_
  refine ⟨_, rfl, ?_⟩
  refine br (fun h => ?_) (fun h9 => ?_)
  · subst h
    exact wb_one (ws_raiseF T.r9 (hr.mono (by decide)) rfl (we_name 1 q))
  refine wb_nil ?_
  refine wb_cons (ws_if ?_)
  refine wt_eq hu64 ?_
  refine we_name 0 ?_
  refine we_int ?_
  refine dEq_int ?_
  refine ⟨_, rfl, ?_⟩
  refine br (fun h => ?_) (fun h10 => ?_)
  · subst h
    exact wb_one (ws_raiseF T.r10 (hr.mono (by decide)) rfl (we_name 1 q))
  refine wb_nil ?_
  refine wb_cons (ws_if ?_)
  refine wt_eq hu64 ?_
  refine we_name 0 ?_
  refine we_int ?_
  refine dEq_int ?_
  refine ⟨_, rfl, ?_⟩
  refine br (fun h => ?_) (fun h11 => ?_)
  · subst h
    exact wb_one (ws_raiseF T.r11 (hr.mono (by decide)) rfl (we_name 1 q))
  refine wb_nil ?_
  have : wy = 12 := by omega
  subst this
  exact wb_one (ws_raiseF T.r12 (hr.mono (by decide)) rfl (we_name 1 q))
theorem ok_marks (T : Txt P w K mg base CH Cs) : HasFn P w K mg base 1 "_law_marks" (spMarks Cs) := by
  refine T.d_l_marks.ok sc_l_marks (fun ds S Q E ⟨s, z, e, _⟩ => by subst e; rfl) fun f cdv A outer sh H E hr ds S Q E' ⟨wy, fs, e, h1, q⟩ => ?_
  subst e
  have nd := sc_l_marks.nd
  refine wb_cons (ws_set 1 ?_ nd)
  refine we_list ?_
  refine wa_cons ?_
  refine we_isiX T.b_isinstance ?_
  refine wa_cons ?_
  refine we_name 0 ?_
  refine wa_cons ?_
  refine we_const (globR T.r0.g) ?_
  refine wa_nil ?_
  refine ⟨_, _, _, _, _, rfl, .inl ⟨_, rfl, rfl⟩, T.exc _ h1, T.kit _ 0 h1 (by decide), ?_⟩
  refine wa_cons ?_
  refine we_isiX T.b_isinstance ?_
  refine wa_cons ?_
  refine we_name 0 ?_
  refine wa_cons ?_
  refine we_const (globR T.r1.g) ?_
  refine wa_nil ?_
  refine ⟨_, _, _, _, _, rfl, .inl ⟨_, rfl, rfl⟩, T.exc _ h1, T.kit _ 1 h1 (by decide), ?_⟩
  refine wa_cons ?_
  refine we_isiX T.b_isinstance ?_
  refine wa_cons ?_
  refine we_name 0 ?_
  refine wa_cons ?_
  refine we_const (globR T.r2.g) ?_
  refine wa_nil ?_
  refine ⟨_, _, _, _, _, rfl, .inl ⟨_, rfl, rfl⟩, T.exc _ h1, T.kit _ 2 h1 (by decide), ?_⟩
  refine wa_cons ?_
  refine we_isiX T.b_isinstance ?_
  refine wa_cons ?_
  refine we_name 0 ?_
  refine wa_cons ?_
  refine we_const (globR T.r3.g) ?_
  refine wa_nil ?_
  refine ⟨_, _, _, _, _, rfl, .inl ⟨_, rfl, rfl⟩, T.exc _ h1, T.kit _ 3 h1 (by decide), ?_⟩
  refine wa_nil ?_
  walk_at "sz"
  refine wb_cons (ws_set 1 ?_ nd)
  refine we_add ?_
  refine we_name 1 ?_
  refine we_list ?_
  refine wa_cons ?_
  refine we_isiX T.b_isinstance ?_
  refine wa_cons ?_
  refine we_name 0 ?_
  refine wa_cons ?_
  refine we_const (globR T.r4.g) ?_
  refine wa_nil ?_
  refine ⟨_, _, _, _, _, rfl, .inl ⟨_, rfl, rfl⟩, T.exc _ h1, T.kit _ 4 h1 (by decide), ?_⟩
  refine wa_cons ?_
  refine we_isiX T.b_isinstance ?_
  refine wa_cons ?_
  refine we_name 0 ?_
  refine wa_cons ?_
  refine we_const (globR T.r5.g) ?_
  refine wa_nil ?_
  refine ⟨_, _, _, _, _, rfl, .inl ⟨_, rfl, rfl⟩, T.exc _ h1, T.kit _ 5 h1 (by decide), ?_⟩
  refine wa_cons ?_
  refine we_isiX T.b_isinstance ?_
  refine wa_cons ?_
  refine we_name 0 ?_
  refine wa_cons ?_
  refine we_const (globR T.r6.g) ?_
  refine wa_nil ?_
  refine ⟨_, _, _, _, _, rfl, .inl ⟨_, rfl, rfl⟩, T.exc _ h1, T.kit _ 6 h1 (by decide), ?_⟩
  refine wa_cons ?_
  refine we_isiX T.b_isinstance ?_
  refine wa_cons ?_
  refine we_name 0 ?_
  refine wa_cons ?_
  refine we_const (globR T.r7.g) ?_
  refine wa_nil ?_
  refine ⟨_, _, _, _, _, rfl, .inl ⟨_, rfl, rfl⟩, T.exc _ h1, T.kit _ 7 h1 (by decide), ?_⟩
  refine wa_nil ?_
  walk_at "sz"
  walk_at "sz"
  refine wb_cons (ws_set 1 ?_ nd)
  refine we_add ?_
  refine we_name 1 ?_
  refine we_list ?_
  refine wa_cons ?_
  refine we_isiX T.b_isinstance ?_
  refine wa_cons ?_
  refine we_name 0 ?_
  refine wa_cons ?_
  refine we_const (globR T.r8.g) ?_
  refine wa_nil ?_
  refine ⟨_, _, _, _, _, rfl, .inl ⟨_, rfl, rfl⟩, T.exc _ h1, T.kit _ 8 h1 (by decide), ?_⟩
  refine wa_cons ?_
  refine we_isiX T.b_isinstance ?_
  refine wa_cons ?_
  refine we_name 0 ?_
  refine wa_cons ?_
  refine we_const (globR T.r9.g) ?_
  refine wa_nil ?_
  refine ⟨_, _, _, _, _, rfl, .inl ⟨_, rfl, rfl⟩, T.exc _ h1, T.kit _ 9 h1 (by decide), ?_⟩
  refine wa_cons ?_
  refine we_isiX T.b_isinstance ?_
  refine wa_cons ?_
  refine we_name 0 ?_
  refine wa_cons ?_
  refine we_const (globR T.r10.g) ?_
  refine wa_nil ?_
  refine ⟨_, _, _, _, _, rfl, .inl ⟨_, rfl, rfl⟩, T.exc _ h1, T.kit _ 10 h1 (by decide), ?_⟩
  refine wa_cons ?_
  refine we_isiX T.b_isinstance ?_
  refine wa_cons ?_
  refine we_name 0 ?_
  refine wa_cons ?_
  refine we_const (globR T.r11.g) ?_
  refine wa_nil ?_
  refine ⟨_, _, _, _, _, rfl, .inl ⟨_, rfl, rfl⟩, T.exc _ h1, T.kit _ 11 h1 (by decide), ?_⟩
  refine wa_nil ?_
  walk_at "sz"
  walk_at "sz"
  refine wb_one (ws_ret ?_)
  refine we_add ?_
  refine we_name 1 ?_
  refine we_list ?_
  refine wa_cons ?_
  refine we_isiX T.b_isinstance ?_
  refine wa_cons ?_
  refine we_name 0 ?_
  refine wa_cons ?_
  refine we_const (globR T.r12.g) ?_
  refine wa_nil ?_
  refine ⟨_, _, _, _, _, rfl, .inl ⟨_, rfl, rfl⟩, T.exc _ h1, T.kit _ 12 h1 (by decide), ?_⟩
  refine wa_nil ?_
  walk_at "sz"
  walk_at "sz"
  exact q
theorem ok_raised (T : Txt P w K mg base CH Cs) : HasFn P w K mg base 4 "_law_raised" (spRaised Cs) := by
  have f_raise := ok_raise T
  refine T.d_l_raised.ok sc_l_raised (fun ds S Q E ⟨s, z, e, _⟩ => by subst e; rfl) fun f cdv A outer sh H E hr ds S Q E' ⟨wy, n, e, h0, h1, q⟩ => ?_
  subst e
  have nd := sc_l_raised.nd
  refine wb_cons (ws_set 2 ?_ nd)
  refine we_non ?_
  refine wb_cons (ws_try (.ref CH) 3 nd (fun pn xe po => ?_) ⟨rfl, by decide, .inl T.gH⟩)
  refine wb_one (ws_expr ?_)
  refine we_call f_raise (Room.mono hr (by decide)) ?_
  refine wa_cons ?_
  refine we_name 0 ?_
  refine wa_cons ?_
  refine we_name 1 ?_
  refine wa_nil ?_
  refine ⟨wy, n, rfl, h0, h1, ?_⟩
  refine ⟨true, T.exm _ (by omega), fun _ a pn2 => ?_, fun z => by cases z⟩
  refine wb_one (ws_set 2 ?_ nd)
  refine we_name 3 ?_
  refine wb_one (ws_ret ?_)
  refine we_name 2 ?_
  exact q
end
end K16

set_option linter.all false
set_option maxRecDepth 100000
set_option maxHeartbeats 400000
set_option autoImplicit false
namespace K16
open PySem L2 Dl
theorem mixed_nonneg (c k : Int) : 0 ≤ mixed c k := Int.emod_nonneg _ (by decide)
def spLaw : DSp := fun ds S Q _ => ∃ ns : List Int, ds = [.klst (ns.map .int)] ∧ ns.length ≤ 63 ∧ Q (.bl true) S
local macro_rules | `(tactic| walk_at "sz") => `(tactic| refine ⟨(by simp [PySem.sizeLine_eq]), ?_⟩)
local macro_rules | `(tactic| walk_at "mod") => `(tactic| refine ⟨(by first | decide | omega), ?_⟩)
local macro_rules | `(tactic| walk_at "div") => `(tactic| refine ⟨⟨by decide, by decide⟩, ?_⟩)
local macro_rules | `(tactic| walk_at "pow") => `(tactic| refine ⟨⟨by decide, by decide, by decide⟩, ?_⟩)
theorem in2 {i a b : Int} : inD (.int i) [.int a, .int b] = decide (i = a ∨ i = b) := by
  have e1 : (a == i) = decide (i = a) := by rw [Bool.beq_eq_decide_eq]; exact decide_eq_decide.mpr eq_comm
  have e2 : (b == i) = decide (i = b) := by rw [Bool.beq_eq_decide_eq]; exact decide_eq_decide.mpr eq_comm
  show ((a == i) || ((b == i) || false)) = _
  rw [e1, e2, Bool.or_false, Bool.decide_or]
section
variable {P : Program} {w : World} {K : PySem.W.Frag} {mg : Str → Option Value} {base : Heap} {CH : Addr} {Cs : Nat → Addr}
theorem ok_law (T : Txt P w K mg base CH Cs) {fa : Addr} {fd : FuncData} (F : Fun K "law" "law" s_law fa fd) : FnOk P w K mg base (L2.CX P w) 5 fa fd ["_law_script"] (lsp K spLaw) := by
  have f_mixed := ok_mixed T
  have f_raised := ok_raised T
  have f_marks := ok_marks T
  refine DefAt.fn F sc_law (fun ds S Q E ⟨d, e, _⟩ => by subst e; rfl) fun f cdv A outer sh H E hr ds S Q E' ⟨ns, e, hlen, q⟩ => ?_
  subst e
  have hu := hu_of hr
  have hu64 := hr.units
  have nd := sc_law.nd
  refine wb_cons (ws_forI (L2.passes_of rfl) rfl ?_)
  refine wi_enum T.b_enumerate ?_
  refine we_add ?_
  refine we_slice ?_
  refine we_name 0 ?_
  refine we_int ?_
  refine ⟨_, rfl, ?_⟩
  refine we_list ?_
  refine wa_cons ?_
  refine we_int ?_
  refine wa_nil ?_
  walk_at "sz"
  have hc : (cutD (ns.map D.int) none (some 60)).length ≤ 63 := Nat.le_trans cutD_len (by rw [List.length_map]; exact hlen)
  refine ⟨sl _ (by simp only [List.length_cons, List.length_nil]; omega), ?_⟩
  refine ⟨_, Or.inl rfl, ?_⟩
  refine ⟨fun k ρ S1 => S1 = S ∧ ∃ o1 o2 o3 o4 o5 o6, ρ = [some (.klst (ns.map .int)), o1, o2, o3, o4, o5, o6], ⟨rfl, _, _, _, _, _, _, rfl⟩, fun k d ρ S1 hd hI => ?_, fun ρ S1 hI => ?_⟩
  · obtain ⟨rfl, o1, o2, o3, o4, o5, o6, rfl⟩ := hI
    obtain ⟨i, c, rfl⟩ : ∃ (i c : Int), d = .tup [.int i, .int c] := by
      obtain ⟨x, hx, _, rfl⟩ := enum_get hd
      rcases List.mem_append.mp hx with z | z
      · obtain ⟨c, _, rfl⟩ := List.mem_map.mp (cutD_mem z)
        exact ⟨_, c, rfl⟩
      · rw [List.mem_singleton.mp z]
        exact ⟨_, 0, rfl⟩
    refine wg_tup2 1 2 rfl nd ⟨_, _, rfl, ?_⟩
    refine wb_cons (ws_set 3 ?_ nd)
    refine we_call f_mixed (hr.mono (by decide)) ?_
    refine wa_cons ?_
    refine we_name 2 ?_
    refine wa_cons ?_
    refine we_name 1 ?_
    refine wa_nil ?_
    refine ⟨_, _, rfl, ?_⟩
    have hx0 := mixed_nonneg c i
    generalize mixed c i = x at hx0 ⊢
    refine wb_cons (ws_set 4 ?_ nd)
    refine we_ix hu ?_
    refine we_list ?_
    refine wa_cons ?_
    refine we_mod ?_
    refine we_fdiv ?_
    refine we_name 3 ?_
    refine we_int ?_
    walk_at "div"
    refine we_pow ?_
    refine we_int ?_
    refine we_int ?_
    walk_at "pow"
    refine ⟨by decide, ?_⟩
    refine wa_cons ?_
    refine we_int ?_
    refine wa_nil ?_
    walk_at "sz"
    refine we_fdiv ?_
    refine we_mod ?_
    refine we_fdiv ?_
    refine we_name 3 ?_
    refine we_int ?_
    walk_at "div"
    refine we_int ?_
    walk_at "mod"
    refine we_int ?_
    walk_at "div"
    refine pick_lst (fun d => ∃ n : Int, d = .int n) (by omega) (by simp; omega) (all_lst ⟨_, rfl⟩ (all_lst ⟨_, rfl⟩ all_nil)) fun d ⟨n, e⟩ => ?_
    subst e
    refine wb_cons (ws_set 5 ?_ nd)
    refine we_call f_raised (hr.mono (by decide)) ?_
    refine wa_cons ?_
    refine we_mod ?_
    refine we_name 3 ?_
    refine we_int ?_
    walk_at "mod"
    refine wa_cons ?_
    refine we_name 4 ?_
    refine wa_nil ?_
    have hw0 : 0 ≤ x % 13 := by omega
    have hw1 : x % 13 < 13 := by omega
    have hwn : (x % 13).toNat < 13 := by omega
    refine ⟨_, _, rfl, hw0, hw1, ?_⟩
    refine wb_cons (ws_if ?_)
    refine wt_w ?_
    refine ww_or ?_
    refine wt_not ?_
    refine wt_val ?_
    refine we_isiX T.b_isinstance ?_
    refine wa_cons ?_
    refine we_name 5 ?_
    refine wa_cons ?_
    refine we_bltn (n := "ValueError") T.b_ValueError ?_
    refine wa_nil ?_
    refine ⟨_, _, _, _, _, rfl, .inr ⟨_, rfl, rfl⟩, T.exc _ hwn, T.kitV _ hwn, ?_⟩
    refine ⟨_, rfl, ?_⟩
    refine brF ?_
    refine ww_or1 ?_
    refine wt_ne hu64 ?_
    refine we_call f_marks (hr.mono (by decide)) ?_
    refine wa_cons ?_
    refine we_name 5 ?_
    refine wa_nil ?_
    refine ⟨_, _, rfl, hwn, ?_⟩
    refine we_lc (own := [("_law_way", 6)]) 6 rfl nd (blkOk_by (N := ["_law_script", "_law_k", "_law_cell", "_law_x", "_law_number", "_law_e", "_law_way"]) (sc := defScope s_law) (by decide +kernel)) rfl (by decide) (fun _ _ _ _ _ => Or.inl rfl) (fun _ _ _ _ _ => Or.inr rfl) ?_
    refine wi_range1 T.b_range ?_
    refine we_int ?_
    refine ⟨_, rfl, by decide, by decide, ?_⟩
    refine ⟨fun k acc S2 => S2 = S1 ∧ acc = ((List.range k).map fun j => decide ((x % 13).toNat = j)).map .bl, ⟨rfl, rfl⟩, fun k d acc S2 hd hk hI => ?_, fun acc S2 hI => ?_⟩
    · obtain ⟨rfl, rfl⟩ := hI
      obtain ⟨hk13, rfl⟩ := range_get hd
      have hk13 : k < 13 := hk13
      refine wf_nil ⟨fun _ _ _ _ _ _ => ?_, fun e => (by cases e)⟩
      refine we_eq hu64 ?_
      refine we_name 6 ?_
      refine we_mod ?_
      refine we_name 3 ?_
      refine we_int ?_
      walk_at "mod"
      refine dEq_int ?_
      refine ⟨Nat.lt_of_le_of_lt (by simp; omega : _ ≤ 13) (by rw [PySem.sizeLine_eq]; decide), rfl, ?_⟩
      rw [List.range_succ, List.map_append, List.map_append]
      have : decide (0 + ((k : Nat) : Int) = x % 13) = decide ((x % 13).toNat = k) := decide_eq_decide.mpr (by omega)
      rw [this]
      rfl
    · obtain ⟨rfl, rfl⟩ := hI
      have e13 : (rangeD 0 (13 : Int).toNat).length = 13 := by decide
      rw [e13]
      have em : ((List.range 13).map fun i => D.bl (decide ((x % 13).toNat = i))) = ((List.range 13).map fun i => decide ((x % 13).toNat = i)).map .bl := by rw [List.map_map]; rfl
      rw [em]
      refine dNe_bls ?_
      refine ⟨_, rfl, ?_⟩
      rw [decide_eq_true rfl]
      refine brF ?_
      refine wb_nil ?_
      refine wb_one (ws_if ?_)
      refine wt_w ?_
      refine ww_or ?_
      refine wt_w ?_
      refine ww_and ?_
      refine wt_in hu ?_
      refine we_mod ?_
      refine we_name 3 ?_
      refine we_int ?_
      walk_at "mod"
      refine we_tuple ?_
      refine wa_cons ?_
      refine we_int ?_
      refine wa_cons ?_
      refine we_int ?_
      refine wa_nil ?_
      walk_at "sz"
      refine ⟨rfl, rfl, ?_⟩
      refine ⟨_, rfl, ?_⟩
      show (inD (.int (x % 13)) [.int 9, .int 12] = true → _) ∧ (inD (.int (x % 13)) [.int 9, .int 12] = false → _)
      rw [in2]
      refine ⟨fun h => ?_, fun h => ?_⟩
      · refine ww_and1 ?_
        refine wt_ne hu64 ?_
        refine we_attr ?_
        refine we_name 5 ?_
        have hv := of_decide_eq_true h
        have e1 : fsOf (x % 13) n = ([("line", D.int n)] : List (Str × D)) := by
          rcases hv with z | z <;> rw [z] <;> rfl
        have e2 : NoAttr K (Cs (x % 13).toNat) "line" := by
          rcases hv with z | z <;> rw [z]
          · exact T.n9
          · exact T.n12
        refine ⟨T.xf _ (by omega) hwn, e2, .int n, by rw [e1]; rfl, ?_⟩
        refine we_name 4 ?_
        refine dNe_int ?_
        refine ⟨_, rfl, ?_⟩
        rw [decide_eq_true rfl]
        refine brF ?_
        have hn : ¬ (x % 13 = 10 ∨ x % 13 = 11) := by omega
        refine ww_or1 ?_
        refine wt_w ?_
        refine ww_and ?_
        refine wt_in hu ?_
        refine we_mod ?_
        refine we_name 3 ?_
        refine we_int ?_
        walk_at "mod"
        refine we_tuple ?_
        refine wa_cons ?_
        refine we_int ?_
        refine wa_cons ?_
        refine we_int ?_
        refine wa_nil ?_
        walk_at "sz"
        refine ⟨rfl, rfl, ?_⟩
        refine ⟨_, rfl, ?_⟩
        show (inD (.int (x % 13)) [.int 10, .int 11] = true → _) ∧ (inD (.int (x % 13)) [.int 10, .int 11] = false → _)
        rw [in2, decide_eq_false hn]
        refine brF ?_
        refine brF ?_
        refine wb_nil ?_
        exact ⟨rfl, _, _, _, _, _, _, rfl⟩
      · refine brF ?_
        refine ww_or1 ?_
        refine wt_w ?_
        refine ww_and ?_
        refine wt_in hu ?_
        refine we_mod ?_
        refine we_name 3 ?_
        refine we_int ?_
        walk_at "mod"
        refine we_tuple ?_
        refine wa_cons ?_
        refine we_int ?_
        refine wa_cons ?_
        refine we_int ?_
        refine wa_nil ?_
        walk_at "sz"
        refine ⟨rfl, rfl, ?_⟩
        refine ⟨_, rfl, ?_⟩
        show (inD (.int (x % 13)) [.int 10, .int 11] = true → _) ∧ (inD (.int (x % 13)) [.int 10, .int 11] = false → _)
        rw [in2]
        refine ⟨fun h => ?_, fun h => ?_⟩
        · refine ww_and1 ?_
          refine wt_ne hu64 ?_
          refine we_attr ?_
          refine we_name 5 ?_
          have hv := of_decide_eq_true h
          have e1 : fsOf (x % 13) n = ([("place", D.int n)] : List (Str × D)) := by
            rcases hv with z | z <;> rw [z] <;> rfl
          have e2 : NoAttr K (Cs (x % 13).toNat) "place" := by
            rcases hv with z | z <;> rw [z]
            · exact T.n10
            · exact T.n11
          refine ⟨T.xf _ (by omega) hwn, e2, .int n, by rw [e1]; rfl, ?_⟩
          refine we_name 4 ?_
          refine dNe_int ?_
          refine ⟨_, rfl, ?_⟩
          rw [decide_eq_true rfl]
          refine brF ?_
          refine wb_nil ?_
          exact ⟨rfl, _, _, _, _, _, _, rfl⟩
        · refine brF ?_
          refine wb_nil ?_
          exact ⟨rfl, _, _, _, _, _, _, rfl⟩
  · obtain ⟨rfl, o1, o2, o3, o4, o5, o6, rfl⟩ := hI
    refine wb_one (ws_ret ?_)
    refine we_bl ?_
    exact q
end
end K16

set_option linter.all false
set_option maxRecDepth 100000
set_option autoImplicit false
namespace K16
open PySem L2 Dl PyProof.Rows
/-- all that the end must show, the addresses found on the way -/
theorem txt_mk {P : Program} {w : World} {K : PySem.W.Frag} {mg : Str → Option Value} {base h : Heap} {CH c0 c1 c2 c3 c4 c5 c6 c7 c8 c9 c10 c11 c12 : Addr} (X : K.In h) (G : h.Ns mainGlobals mg)
    (z1 : PySem.W.nsIn K mainGlobals "isinstance" = some none) (z2 : PySem.W.nsIn K mainGlobals "enumerate" = some none) (z3 : PySem.W.nsIn K mainGlobals "range" = some none) (z4 : PySem.W.nsIn K mainGlobals "ValueError" = some none)
    (Z : HiB K mg "HallError" CH)
    (r0 : XcC K mg "BadName" c0)
    (r1 : XcC K mg "BadNumber" c1)
    (r2 : XcC K mg "NoPlace" c2)
    (r3 : XcC K mg "NoTie" c3)
    (r4 : XcC K mg "Twice" c4)
    (r5 : XcC K mg "HasTies" c5)
    (r6 : XcC K mg "TooMany" c6)
    (r7 : XcC K mg "NoPlan" c7)
    (r8 : XcC K mg "BadDesk" c8)
    (r9 : HiB K mg "HallError" CH → XfI P w K mg base "BadRow" "line" c9)
    (r10 : HiB K mg "HallError" CH → XfI P w K mg base "BadCond" "place" c10)
    (r11 : HiB K mg "HallError" CH → XfI P w K mg base "BadRoad" "place" c11)
    (r12 : HiB K mg "HallError" CH → XfI P w K mg base "BadQuestion" "line" c12)
    (er : errsB K CH 13 [c0, c1, c2, c3, c4, c5, c6, c7, c8, c9, c10, c11, c12] = true)
    (x9 : xfB K c9 = true) (n9 : PySem.W.findIn K (.ref c9) "line" = some none)
    (x10 : xfB K c10 = true) (n10 : PySem.W.findIn K (.ref c10) "place" = some none)
    (x11 : xfB K c11 = true) (n11 : PySem.W.findIn K (.ref c11) "place" = some none)
    (x12 : xfB K c12 = true) (n12 : PySem.W.findIn K (.ref c12) "line" = some none)
    (d1 : DefAt K mg "_law_mixed" "_law_mixed" s_l_mixed ["_law_cell", "_law_k"]) (d2 : DefAt K mg "_law_raise" "_law_raise" s_l_raise ["_law_way", "_law_number"]) (d3 : DefAt K mg "_law_marks" "_law_marks" s_l_marks ["_law_e"]) (d4 : DefAt K mg "_law_raised" "_law_raised" s_l_raised ["_law_way", "_law_number"]) :
    Txt P w K mg base CH (fun i => [c0, c1, c2, c3, c4, c5, c6, c7, c8, c9, c10, c11, c12].getD i 0) := by
  obtain ⟨e1, e2, e3, e4⟩ := errsB_ok er
  exact ⟨glob_no X G z1, glob_no X G z2, glob_no X G z3, glob_no X G z4, Z.g, r0, r1, r2, r3, r4, r5, r6, r7, r8, r9 Z, r10 Z, r11 Z, r12 Z, e1, e2, e3, e4, fun i h1 h2 => by
    obtain rfl | rfl | rfl | rfl : i = 9 ∨ i = 10 ∨ i = 11 ∨ i = 12 := by omega
    · exact xfB_ok x9
    · exact xfB_ok x10
    · exact xfB_ok x11
    · exact xfB_ok x12, n9, n10, n11, n12, d1, d2, d3, d4⟩
end K16
open PySem PySem.W PyProof.Rows
set_option maxHeartbeats 0 in
theorem PySem.Challenge.cw_tiehall_k16_refusals_holds : PySem.Challenge.rw_tiehall_k16_refusals.Holds := by
  w_on; o_law; k_head; (case hw => w_witness2)
  k_fill
  refine Dl.law_end (l := PySem.Challenge.rw_tiehall_k16_refusals) (n := 63) (k := 5) (x := "_law_script") (st := K16.s_law) (R := K16.spLaw) rfl (by decide) rfl ⟨rfl, by decide, by decide⟩ (fun w h Y => PySem.W.kIn_of Y) (fun ns S Q E h q => ⟨ns, rfl, h, q⟩) ?F
  case F =>
    intro w mg fa h KX G hmg
    refine ⟨?law, fun fd base F1 => ?main⟩
    case law =>
      refine' Dl.lawAt_mk KX G hmg ?a ?l ?c ?k ?b
      (case a => k_is); (case l => k_is); (case c => k_is); (case k => k_is)
      case b => exact fun _ _ _ _ _ _ s v => .of_eq rfl
    refine' K16.ok_law (K16.txt_mk (base := base) KX G ?z1 ?z2 ?z3 ?z4 ?Z ?r0 ?r1 ?r2 ?r3 ?r4 ?r5 ?r6 ?r7 ?r8 ?r9 ?r10 ?r11 ?r12 ?er ?x9 ?n9 ?x10 ?n10 ?x11 ?n11 ?x12 ?n12 ?d1 ?d2 ?d3 ?d4) F1
    (case z1 => k_is); (case z2 => k_is); (case z3 => k_is); (case z4 => k_is)
    case Z =>
      refine' Dl.hiB_mk KX G ?a ?g ?r ?t
      (case a => k_is); (case g => k_is); (case r => k_is); (case t => k_is)
    case r0 =>
      refine' Dl.xcC_mk KX G ?a ?ex ?k ?s ?t
      (case a => k_is)
      case ex => kernel_rfl
      (case k => k_is); (case s => k_is); (case t => k_is)
    case r1 =>
      refine' Dl.xcC_mk KX G ?a ?ex ?k ?s ?t
      (case a => k_is)
      case ex => kernel_rfl
      (case k => k_is); (case s => k_is); (case t => k_is)
    case r2 =>
      refine' Dl.xcC_mk KX G ?a ?ex ?k ?s ?t
      (case a => k_is)
      case ex => kernel_rfl
      (case k => k_is); (case s => k_is); (case t => k_is)
    case r3 =>
      refine' Dl.xcC_mk KX G ?a ?ex ?k ?s ?t
      (case a => k_is)
      case ex => kernel_rfl
      (case k => k_is); (case s => k_is); (case t => k_is)
    case r4 =>
      refine' Dl.xcC_mk KX G ?a ?ex ?k ?s ?t
      (case a => k_is)
      case ex => kernel_rfl
      (case k => k_is); (case s => k_is); (case t => k_is)
    case r5 =>
      refine' Dl.xcC_mk KX G ?a ?ex ?k ?s ?t
      (case a => k_is)
      case ex => kernel_rfl
      (case k => k_is); (case s => k_is); (case t => k_is)
    case r6 =>
      refine' Dl.xcC_mk KX G ?a ?ex ?k ?s ?t
      (case a => k_is)
      case ex => kernel_rfl
      (case k => k_is); (case s => k_is); (case t => k_is)
    case r7 =>
      refine' Dl.xcC_mk KX G ?a ?ex ?k ?s ?t
      (case a => k_is)
      case ex => kernel_rfl
      (case k => k_is); (case s => k_is); (case t => k_is)
    case r8 =>
      refine' Dl.xcC_mk KX G ?a ?ex ?k ?s ?t
      (case a => k_is)
      case ex => kernel_rfl
      (case k => k_is); (case s => k_is); (case t => k_is)
    case r9 =>
      intro Z
      refine' Dl.xfI_mk (st := K16.s_BadRow) KX G ?a ?l ?rv ?sa ?e ?t ?k ?ic ?ti ?fl ?fc ?fk ?hno Z K16.sc_BadRow ?yb ?yc ?bb ?v0 ?v1 ?hgl ?n0 ?n1 ?n2 ?n3 ?n4
      (case a => k_is); (case l => k_is)
      case rv => rfl
      (case sa => k_is); (case e => k_is); (case t => k_is); (case k => k_is); (case ic => k_is); (case ti => k_is); (case fl => k_is); (case fc => k_is); (case fk => k_is); (case hno => k_is)
      case yb => rfl
      case bb => exact fun _ _ _ _ _ _ us hl => match us, hl with | [_, _], _ => rfl
      (case v0 => exact Or.inl rfl); (case v1 => exact Or.inl rfl); (case hgl => rfl)
      (case n0 => decide); (case n1 => decide); (case n2 => decide); (case n3 => decide); (case n4 => decide)
      case yc => exact fun _ => rfl
    case r10 =>
      intro Z
      refine' Dl.xfI_mk (st := K16.s_BadCond) KX G ?a ?l ?rv ?sa ?e ?t ?k ?ic ?ti ?fl ?fc ?fk ?hno Z K16.sc_BadCond ?yb ?yc ?bb ?v0 ?v1 ?hgl ?n0 ?n1 ?n2 ?n3 ?n4
      (case a => k_is); (case l => k_is)
      case rv => rfl
      (case sa => k_is); (case e => k_is); (case t => k_is); (case k => k_is); (case ic => k_is); (case ti => k_is); (case fl => k_is); (case fc => k_is); (case fk => k_is); (case hno => k_is)
      case yb => rfl
      case bb => exact fun _ _ _ _ _ _ us hl => match us, hl with | [_, _], _ => rfl
      (case v0 => exact Or.inl rfl); (case v1 => exact Or.inl rfl); (case hgl => rfl)
      (case n0 => decide); (case n1 => decide); (case n2 => decide); (case n3 => decide); (case n4 => decide)
      case yc => exact fun _ => rfl
    case r11 =>
      intro Z
      refine' Dl.xfI_mk (st := K16.s_BadRoad) KX G ?a ?l ?rv ?sa ?e ?t ?k ?ic ?ti ?fl ?fc ?fk ?hno Z K16.sc_BadRoad ?yb ?yc ?bb ?v0 ?v1 ?hgl ?n0 ?n1 ?n2 ?n3 ?n4
      (case a => k_is); (case l => k_is)
      case rv => rfl
      (case sa => k_is); (case e => k_is); (case t => k_is); (case k => k_is); (case ic => k_is); (case ti => k_is); (case fl => k_is); (case fc => k_is); (case fk => k_is); (case hno => k_is)
      case yb => rfl
      case bb => exact fun _ _ _ _ _ _ us hl => match us, hl with | [_, _], _ => rfl
      (case v0 => exact Or.inl rfl); (case v1 => exact Or.inl rfl); (case hgl => rfl)
      (case n0 => decide); (case n1 => decide); (case n2 => decide); (case n3 => decide); (case n4 => decide)
      case yc => exact fun _ => rfl
    case r12 =>
      intro Z
      refine' Dl.xfI_mk (st := K16.s_BadQuestion) KX G ?a ?l ?rv ?sa ?e ?t ?k ?ic ?ti ?fl ?fc ?fk ?hno Z K16.sc_BadQuestion ?yb ?yc ?bb ?v0 ?v1 ?hgl ?n0 ?n1 ?n2 ?n3 ?n4
      (case a => k_is); (case l => k_is)
      case rv => rfl
      (case sa => k_is); (case e => k_is); (case t => k_is); (case k => k_is); (case ic => k_is); (case ti => k_is); (case fl => k_is); (case fc => k_is); (case fk => k_is); (case hno => k_is)
      case yb => rfl
      case bb => exact fun _ _ _ _ _ _ us hl => match us, hl with | [_, _], _ => rfl
      (case v0 => exact Or.inl rfl); (case v1 => exact Or.inl rfl); (case hgl => rfl)
      (case n0 => decide); (case n1 => decide); (case n2 => decide); (case n3 => decide); (case n4 => decide)
      case yc => exact fun _ => rfl
    case er => kernel_rfl
    (case x9 => kernel_rfl); (case n9 => k_is)
    (case x10 => kernel_rfl); (case n10 => k_is)
    (case x11 => kernel_rfl); (case n11 => k_is)
    (case x12 => kernel_rfl); (case n12 => k_is)
    case d1 =>
      refine' Dl.defAt_mk KX G ?a ?l ?c ?k ?b
      (case a => k_is); (case l => k_is); (case c => k_is); (case k => k_is)
      case b => exact fun _ _ _ _ _ _ us hl => match us, hl with | [_, _], _ => rfl
    case d2 =>
      refine' Dl.defAt_mk KX G ?a ?l ?c ?k ?b
      (case a => k_is); (case l => k_is); (case c => k_is); (case k => k_is)
      case b => exact fun _ _ _ _ _ _ us hl => match us, hl with | [_, _], _ => rfl
    case d3 =>
      refine' Dl.defAt_mk KX G ?a ?l ?c ?k ?b
      (case a => k_is); (case l => k_is); (case c => k_is); (case k => k_is)
      case b => exact fun _ _ _ _ _ _ us hl => match us, hl with | [_], _ => rfl
    case d4 =>
      refine' Dl.defAt_mk KX G ?a ?l ?c ?k ?b
      (case a => k_is); (case l => k_is); (case c => k_is); (case k => k_is)
      case b => exact fun _ _ _ _ _ _ us hl => match us, hl with | [_, _], _ => rfl
