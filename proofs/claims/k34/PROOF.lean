import PyProof.Rows.All
import Wide.All
import OpenK.AllK
import Wide.FinOn
import HandS.ForMost
import HandS.IsInst
import HandS.Property
import HandS.Wide
import HandS.Conv
import HandS.Style
import HandS.FStr
import HandS.Defaults
import HandS.Exc
import HandS.ExcOwn
import HandS.WordsExc
import HandS.TryMany
import HandS.Star
import HandS.ClsMeth
import HandS.Lambda
import HandS.TupAny
import HandS.Deep
import HandS.Rev
import HandS.Zip
import HandS.TupLe
import HandS.RaiseMore
import HandS.HeadHook4
import PyProof.RulesMatch
import KE.GoesMore
import HandS.MakeKwOnly
import HandS.HeadHook3
import HandS.ExcInit
import KE.KExcSuper
import HandS.ExcField
import HandS.HotCalls
import OpenK.KOps
import OpenK.KMeth
import KE.KCallOwn
import PyProof.InstEq
import HandS.TupSets
import HandS.SortInts
import HandS.Text
import PyProof.ListRange
import HandS.Dict
import HandS.List
import HandS.Head2
import HandS.Base
import HandS.Call
import HandS.Words
import HandS.Head0
import HandS.Head1
import HandS.HeadEnd
import HandS.HeadWalk
import Wide.Once
import PySem.Challenge.RW_sharesay_k34_whole_states_behind_counts
set_option Elab.async false
set_option linter.all false
set_option maxRecDepth 100000
set_option maxHeartbeats 8000000
/-! Y1: pure data P, values W, mutable cells, outcomes; how they stand in an abstract heap. -/
namespace Y
open PySem L2

/-- data that never changes; obj: an instance of the class number c, its fields by place -/
inductive P where
  | non | bl (b : Bool) | int (i : Int) | str (s : Str)
  | tup (l : List P) | lst (l : List P) | scr (l : List Int)
  | dk (ks : List Key) (l : List P)
  | obj (c : Nat) (l : List P)
  /-- an exception of the class number c, its fields by place -/
  | exn (c : Nat) (l : List P)
/-- a value: data, or the i-th cell -/
inductive W where
  | p (x : P) | r (i : Nat)
/-- a mutable object; dead: it has become data -/
inductive Cell where
  | lst (l : List W) | dk (ks : List Key) (l : List W) | ins (c : Nat) (l : List W) | dead
/-- an exception: class number, its own fields -/
structure Exn where
  c : Nat
  l : List P
inductive Res (α : Type) where
  | ok (a : α) (st : List Cell) | exc (x : Exn) (st : List Cell) | no
def Res.bind {α β : Type} (r : Res α) (k : α → List Cell → Res β) : Res β := match r with
  | .ok a st => k a st
  | .exc x st => .exc x st
  | .no => .no
abbrev Sg := List (Option W)
abbrev EM := Sg → List Cell → Res W
inductive Fl where
  | nx | rt (w : W) | bk | ct
abbrev SM := Sg → List Cell → Res (Fl × Sg)
abbrev FM := List W → List Cell → Res W

/-- the classes by number: where each stands, its fields' names in the order of their first store -/
structure Cls where
  l : List (Addr × List Str)
  /-- the tables of code objects, each with the name that its code objects bear -/
  tb : List (Addr × Str) := []
instance : GetElem? Cls Nat (Addr × List Str) fun c i => i < c.l.length where
  getElem c i h := c.l[i]
  getElem? c i := c.l[i]?

/-- at a: just that object -/
def exq (a : Addr) (oe : Obj) : HO := .ext fun h => h.get? a = some oe
section
variable (K : PySem.W.Frag) (cl : Cls) (G : Hp)
mutual
inductive RP : P → V → Prop
  | non : RP .non .non
  | bl (b : Bool) : RP (.bl b) (.bl b)
  | int (i : Int) : RP (.int i) (.int i)
  | str (s : Str) : RP (.str s) (.str s)
  | tup {a : Addr} {vs : List V} {l : List P} : SqT K G a vs → RPs l vs → RP (.tup l) (.ref a)
  | lst {a : Addr} {vs : List V} {l : List P} : G a = some (.lst vs) → RPs l vs → RP (.lst l) (.ref a)
  | scr {a : Addr} {l : List Int} : SqL K G a (l.map V.int) → RP (.scr l) (.ref a)
  | dk {a : Addr} {ks : List Key} {vs : List V} {l : List P} : G a = some (.dK (ks.zip vs)) → ks.length = vs.length → RPs l vs → RP (.dk ks l) (.ref a)
  | obj {a C dx : Addr} {c : Nat} {ns : List Str} {vs : List V} {l : List P} : cl[c]? = some (C, ns) → G a = some (.ins C dx (ns.zip vs)) → ns.length = vs.length → RPs l vs → RP (.obj c l) (.ref a)
  | exn {a C dd : Addr} {oe : Obj} {c : Nat} {ns : List Str} {vs : List V} {l : List P} : cl[c]? = some (C, ns) → (oe.cls = .ref C ∧ oe.dict = some dd ∧ ∃ fs, oe.data = .fields fs) → G a = some (exq a oe) → G dd = some (.xd (ns.zip vs)) → ns.length = vs.length → RPs l vs → RP (.exn c l) (.ref a)
inductive RPs : List P → List V → Prop
  | nil : RPs [] []
  | cons {x : P} {v : V} {l : List P} {vs : List V} : RP x v → RPs l vs → RPs (x :: l) (v :: vs)
end
end

def Sub (G G' : Hp) : Prop := ∀ a o, G a = some o → G' a = some o
theorem Sub.refl (G : Hp) : Sub G G := fun _ _ h => h
theorem Sub.trans {G G' G'' : Hp} (a : Sub G G') (b : Sub G' G'') : Sub G G'' := fun x o h => b x o (a x o h)
theorem Sub.new {G : Hp} {p : Addr} {o : HO} (h : G p = none) : Sub G (upd G p o) := fun a u e => by
  rw [upd_ne (ne_of_none e h)]; exact e
theorem Sub.rd {G G' : Hp} (s : Sub G G') {a : Addr} {u : HO} (h : Rd G a u) : Rd G' a u := by
  rcases h with h | ⟨o, h⟩
  · exact .inl (s _ _ h)
  · exact .inr ⟨o, s _ _ h⟩
theorem Sub.sqL {K : PySem.W.Frag} {G G' : Hp} (s : Sub G G') {a : Addr} {xs : List V} (h : SqL K G a xs) : SqL K G' a xs := by
  rcases h with h | h
  · exact .inl (s.rd h)
  · exact .inr h
theorem Sub.sqT {K : PySem.W.Frag} {G G' : Hp} (s : Sub G G') {a : Addr} {xs : List V} (h : SqT K G a xs) : SqT K G' a xs := by
  rcases h with h | h
  · exact .inl (s.rd h)
  · exact .inr h

section
variable {K : PySem.W.Frag} {cl : Cls} {G G' : Hp}
mutual
theorem RP.mono (s : Sub G G') : ∀ {x : P} {v : V}, RP K cl G x v → RP K cl G' x v
  | _, _, .non => .non
  | _, _, .bl b => .bl b
  | _, _, .int i => .int i
  | _, _, .str z => .str z
  | _, _, .tup h r => .tup (s.sqT h) (RPs.mono s r)
  | _, _, .lst h r => .lst (s _ _ h) (RPs.mono s r)
  | _, _, .scr h => .scr (s.sqL h)
  | _, _, .dk h e r => .dk (s _ _ h) e (RPs.mono s r)
  | _, _, .obj c h e r => .obj c (s _ _ h) e (RPs.mono s r)
  | _, _, .exn c x h d e r => .exn c x (s _ _ h) (s _ _ d) e (RPs.mono s r)
theorem RPs.mono (s : Sub G G') : ∀ {l : List P} {vs : List V}, RPs K cl G l vs → RPs K cl G' l vs
  | _, _, .nil => .nil
  | _, _, .cons h r => .cons (RP.mono s h) (RPs.mono s r)
end
theorem RPs.length : ∀ {l : List P} {vs : List V}, RPs K cl G l vs → l.length = vs.length
  | _, _, .nil => rfl
  | _, _, .cons _ r => congrArg Nat.succ (RPs.length r)
theorem RPs.get : ∀ {l : List P} {vs : List V} {i : Nat} {x : P}, RPs K cl G l vs → l[i]? = some x → ∃ v, vs[i]? = some v ∧ RP K cl G x v
  | _, _, _, _, .nil, e => by simp at e
  | _, _, 0, _, .cons h _, e => by simp at e; subst e; exact ⟨_, rfl, h⟩
  | _, _, i + 1, x, .cons _ r, e => by
    obtain ⟨u, h1, h2⟩ := RPs.get (i := i) (x := x) r (by simpa using e)
    exact ⟨u, by simpa using h1, h2⟩
theorem RPs.getV : ∀ {l : List P} {vs : List V} {i : Nat} {v : V}, RPs K cl G l vs → vs[i]? = some v → ∃ x, l[i]? = some x ∧ RP K cl G x v
  | _, _, _, _, .nil, e => by simp at e
  | _, _, 0, _, .cons h _, e => by simp at e; subst e; exact ⟨_, rfl, h⟩
  | _, _, i + 1, v, .cons _ r, e => by
    obtain ⟨u, h1, h2⟩ := RPs.getV (i := i) (v := v) r (by simpa using e)
    exact ⟨u, by simpa using h1, h2⟩
theorem RPs.append : ∀ {l m : List P} {vs us : List V}, RPs K cl G l vs → RPs K cl G m us → RPs K cl G (l ++ m) (vs ++ us)
  | _, _, _, _, .nil, s => s
  | _, _, _, _, .cons h r, s => .cons h (RPs.append r s)
theorem RPs.take : ∀ {l : List P} {vs : List V} (n : Nat), RPs K cl G l vs → RPs K cl G (l.take n) (vs.take n)
  | _, _, 0, _ => .nil
  | _, _, _ + 1, .nil => .nil
  | _, _, n + 1, .cons h r => .cons h (RPs.take n r)
theorem RPs.drop : ∀ {l : List P} {vs : List V} (n : Nat), RPs K cl G l vs → RPs K cl G (l.drop n) (vs.drop n)
  | _, _, 0, r => r
  | _, _, _ + 1, .nil => .nil
  | _, _, n + 1, .cons _ r => RPs.drop n r
theorem RPs.reverse {l : List P} {vs : List V} (r : RPs K cl G l vs) : RPs K cl G l.reverse vs.reverse := by
  induction l generalizing vs with
  | nil => cases r; exact .nil
  | cons x l ih =>
    cases r with
    | cons h r =>
      rw [List.reverse_cons, List.reverse_cons]
      exact (ih r).append (.cons h .nil)
theorem RPs.ints : ∀ (l : List Int), RPs K cl G (l.map P.int) (l.map V.int)
  | [] => .nil
  | i :: l => .cons (.int i) (RPs.ints l)
theorem RPs.of_ints : ∀ {l : List Int} {vs : List V}, RPs K cl G (l.map P.int) vs → vs = l.map V.int
  | [], _, .nil => rfl
  | i :: l, _, .cons h r => by
    cases h
    rw [RPs.of_ints r]; rfl
end

/-- a value as it stands; ρ: the cells' addresses -/
def RW (K : PySem.W.Frag) (cl : Cls) (ρ : List Addr) (G : Hp) : W → V → Prop
  | .p x, v => RP K cl G x v
  | .r i, v => ∃ a, ρ[i]? = some a ∧ v = .ref a
inductive RWs (K : PySem.W.Frag) (cl : Cls) (ρ : List Addr) (G : Hp) : List W → List V → Prop
  | nil : RWs K cl ρ G [] []
  | cons {w : W} {v : V} {l : List W} {vs : List V} : RW K cl ρ G w v → RWs K cl ρ G l vs → RWs K cl ρ G (w :: l) (v :: vs)
section
variable {K : PySem.W.Frag} {cl : Cls} {ρ ρ' : List Addr} {G G' : Hp}
theorem RW.mono (p : ρ <+: ρ') (s : Sub G G') {w : W} {v : V} (h : RW K cl ρ G w v) : RW K cl ρ' G' w v := by
  cases w with
  | p x => exact RP.mono s h
  | r i =>
    obtain ⟨a, e, q⟩ := h
    obtain ⟨t, rfl⟩ := p
    refine ⟨a, ?_, q⟩
    have hi : i < ρ.length := (List.getElem?_eq_some_iff.mp e).1
    rw [List.getElem?_append_left hi]; exact e
theorem RWs.mono (p : ρ <+: ρ') (s : Sub G G') : ∀ {l : List W} {vs : List V}, RWs K cl ρ G l vs → RWs K cl ρ' G' l vs
  | _, _, .nil => .nil
  | _, _, .cons h r => .cons (h.mono p s) (RWs.mono p s r)
theorem RWs.length : ∀ {l : List W} {vs : List V}, RWs K cl ρ G l vs → l.length = vs.length
  | _, _, .nil => rfl
  | _, _, .cons _ r => congrArg Nat.succ (RWs.length r)
theorem RWs.get : ∀ {l : List W} {vs : List V} {i : Nat} {x : W}, RWs K cl ρ G l vs → l[i]? = some x → ∃ v, vs[i]? = some v ∧ RW K cl ρ G x v
  | _, _, _, _, .nil, e => by simp at e
  | _, _, 0, _, .cons h _, e => by simp at e; subst e; exact ⟨_, rfl, h⟩
  | _, _, i + 1, x, .cons _ r, e => by
    obtain ⟨u, h1, h2⟩ := RWs.get (i := i) (x := x) r (by simpa using e)
    exact ⟨u, by simpa using h1, h2⟩
theorem RWs.append : ∀ {l m : List W} {vs us : List V}, RWs K cl ρ G l vs → RWs K cl ρ G m us → RWs K cl ρ G (l ++ m) (vs ++ us)
  | _, _, _, _, .nil, s => s
  | _, _, _, _, .cons h r, s => .cons h (RWs.append r s)
theorem RWs.set {w : W} {v : V} (h : RW K cl ρ G w v) : ∀ {l : List W} {vs : List V} (i : Nat), RWs K cl ρ G l vs → RWs K cl ρ G (l.set i w) (vs.set i v)
  | _, _, _, .nil => .nil
  | _, _, 0, .cons _ r => .cons h r
  | _, _, i + 1, .cons q r => .cons q (RWs.set h i r)
theorem RWs.take : ∀ {l : List W} {vs : List V} (n : Nat), RWs K cl ρ G l vs → RWs K cl ρ G (l.take n) (vs.take n)
  | _, _, 0, _ => .nil
  | _, _, _ + 1, .nil => .nil
  | _, _, n + 1, .cons h r => .cons h (RWs.take n r)
theorem RWs.drop : ∀ {l : List W} {vs : List V} (n : Nat), RWs K cl ρ G l vs → RWs K cl ρ G (l.drop n) (vs.drop n)
  | _, _, 0, r => r
  | _, _, _ + 1, .nil => .nil
  | _, _, n + 1, .cons _ r => RWs.drop n r
theorem RWs.of_pures : ∀ {l : List P} {vs : List V}, RPs K cl G l vs → RWs K cl ρ G (l.map W.p) vs
  | _, _, .nil => .nil
  | _, _, .cons h r => .cons h (RWs.of_pures r)
/-- all data -/
def pures : List W → Option (List P)
  | [] => some []
  | .p x :: l => (pures l).map (x :: ·)
  | .r _ :: _ => none
theorem pures_map (l : List P) : pures (l.map W.p) = some l := by
  induction l with
  | nil => rfl
  | cons x l ih =>
    show (pures (l.map W.p)).map (x :: ·) = _
    rw [ih]; rfl
theorem pures_eq : ∀ {l : List W} {m : List P}, pures l = some m → l = m.map W.p
  | [], m, h => by
    obtain rfl : [] = m := Option.some.inj h
    rfl
  | .p x :: l, m, h => by
    have h : (pures l).map (x :: ·) = some m := h
    cases e : pures l with
    | none => rw [e] at h; cases h
    | some k =>
      rw [e] at h
      obtain rfl : x :: k = m := Option.some.inj h
      rw [pures_eq e]; rfl
  | .r i :: l, m, h => by cases h
theorem RWs.pure' : ∀ {l : List P} {vs : List V}, RWs K cl ρ G (l.map W.p) vs → RPs K cl G l vs
  | [], _, .nil => .nil
  | _ :: _, _, .cons h r => .cons h (RWs.pure' r)
theorem RWs.pures {l : List W} {m : List P} {vs : List V} (h : RWs K cl ρ G l vs) (e : Y.pures l = some m) : RPs K cl G m vs := by
  rw [pures_eq e] at h; exact h.pure'
end

/-- slots -/
def RS (K : PySem.W.Frag) (cl : Cls) (ρ : List Addr) (G : Hp) (σ : Sg) (τ : L2.St) : Prop :=
  σ.length = τ.length ∧ ∀ (i : Nat) (w : W), σ[i]? = some (some w) → ∃ v, τ[i]? = some (some v) ∧ RW K cl ρ G w v
/-- a cell as it stands at a -/
def CA (K : PySem.W.Frag) (cl : Cls) (ρ : List Addr) (G : Hp) (H : Hp) (a : Addr) : Cell → Prop
  | .lst l => ∃ vs, H a = some (.lst vs) ∧ RWs K cl ρ G l vs
  | .dk ks l => ∃ vs, H a = some (.dK (ks.zip vs)) ∧ ks.length = vs.length ∧ RWs K cl ρ G l vs
  | .ins c l => ∃ C dx ns vs, cl[c]? = some (C, ns) ∧ H a = some (.ins C dx (ns.zip vs)) ∧ vs.length ≤ ns.length ∧ RWs K cl ρ G l vs
  | .dead => ∃ o, G a = some o
/-- without the tables of code objects -/
def strip (H : Hp) : Hp := fun a => match H a with
  | some (.tbl _) => none
  | o => o
/-- no table of code objects -/
def NT (u : HO) : Prop := ∀ ps, u ≠ .tbl ps
theorem strip_of {H : Hp} {a : Addr} {u : HO} (h : H a = some u) (nt : NT u) : strip H a = some u := by
  unfold strip
  rw [h]
  split
  · rename_i ps e
    exact absurd (Option.some.inj e) (nt ps)
  · rfl
theorem strip_to {H : Hp} {a : Addr} {u : HO} (h : strip H a = some u) : H a = some u ∧ NT u := by
  unfold strip at h
  split at h
  · cases h
  · rename_i n
    exact ⟨h, fun ps e => n ps (by rw [h, e])⟩
theorem strip_none {H : Hp} {a : Addr} (h : strip H a = none) : H a = none ∨ ∃ ps, H a = some (.tbl ps) := by
  cases e : H a with
  | none => exact .inl rfl
  | some u =>
    by_cases nt : NT u
    · rw [strip_of e nt] at h; cases h
    · exact .inr (Classical.byContradiction fun z => nt fun ps q => z ⟨ps, by rw [q]⟩)
theorem tabs_ne {H : Hp} {P p : Addr} {q : Str} (t : LamX.TabS H P q) (h : H p = none) : P ≠ p := fun e => by
  obtain ⟨ps, z, _⟩ := t
  rw [e, h] at z; cases z
theorem tabs_nt {H : Hp} {P p : Addr} {q : Str} {o : HO} (t : LamX.TabS H P q) (h : H p = some o) (nt : NT o) : P ≠ p := fun e => by
  obtain ⟨ps, z, _⟩ := t
  rw [e, h] at z
  exact nt ps (Option.some.inj z)
theorem tabs_new {H : Hp} {P p : Addr} {q : Str} {o : HO} (t : LamX.TabS H P q) (h : H p = none) : LamX.TabS (upd H p o) P q := t.ext fun b u e => by
  rw [upd_ne (ne_of_none e h)]; exact e
/-- an object that is no table and no code object -/
def PlO (u : HO) : Prop := NT u ∧ ∀ c q, u ≠ LamX.CodeO c q
theorem tabs_upd {H : Hp} {P p : Addr} {q : Str} {o u : HO} (t : LamX.TabS H P q) (h : H p = some u) (hu : PlO u) : LamX.TabS (upd H p o) P q := by
  have ne := tabs_nt t h hu.1
  obtain ⟨ps, e1, e2, e3⟩ := t
  refine ⟨ps, by rw [upd_ne ne]; exact e1, e2, fun pos cv hc => ?_⟩
  obtain ⟨c, z1, z2⟩ := e3 pos cv hc
  refine ⟨c, z1, ?_⟩
  have nc : c ≠ p := fun e => by
    subst e
    rw [h] at z2
    exact hu.2 c q (Option.some.inj z2)
  rw [upd_ne nc]; exact z2
theorem po_of {u : HO} (h : match u with | .tbl _ => False | .ext _ => False | _ => True) : PlO u := by
  refine ⟨fun ps z => ?_, fun c q z => ?_⟩
  · subst z; exact h
  · unfold LamX.CodeO at z; subst z; exact h
/-- the entry of a def: its heap, how many cells were handed in, what never changed then -/
structure En where
  H0 : Hp
  n0 : Nat
  G0 : Hp
/-- the state: G: what never changes -/
structure Rel (K : PySem.W.Frag) (cl : Cls) (E0 : En) (ρ : List Addr) (G : Hp) (st : List Cell) (H : Hp) : Prop where
  len : ρ.length = st.length
  nd : ρ.Nodup
  cell : ∀ (i : Nat) c a, st[i]? = some c → ρ[i]? = some a → CA K cl ρ G H a c
  sep : ∀ (i : Nat) c a, st[i]? = some c → ρ[i]? = some a → c = .dead ∨ G a = none
  sub : Sub G H
  old : ∀ a u, E0.H0 a = some u → (∀ i : Nat, i < E0.n0 → ρ[i]? ≠ some a) → H a = some u
  new : ∀ (i : Nat) a, E0.n0 ≤ i → ρ[i]? = some a → E0.H0 a = none
  n0 : E0.n0 ≤ ρ.length
  grow : ∀ a o, G a = some o → E0.G0 a = some o ∨ E0.H0 a = none ∨ ∃ i : Nat, i < E0.n0 ∧ ρ[i]? = some a
  ent : ∀ a u, E0.H0 a = some u → NT u
  gnt : ∀ a u, G a = some u → NT u
  tabs : LamX.Tabs cl.tb H

section
variable {K : PySem.W.Frag} {cl : Cls} {E0 : En} {ρ ρ' : List Addr} {G G' : Hp} {st : List Cell} {H H' : Hp}
theorem CA.mono (p : ρ <+: ρ') (s : Sub G G') {a : Addr} (e : H' a = H a) : ∀ {c : Cell}, CA K cl ρ G H a c → CA K cl ρ' G' H' a c
  | .lst l, ⟨vs, h, r⟩ => ⟨vs, e.trans h, r.mono p s⟩
  | .dk ks l, ⟨vs, h, z, r⟩ => ⟨vs, e.trans h, z, r.mono p s⟩
  | .ins c l, ⟨C, dx, ns, vs, k, h, z, r⟩ => ⟨C, dx, ns, vs, k, e.trans h, z, r.mono p s⟩
  | .dead, ⟨o, h⟩ => ⟨o, s _ _ h⟩
theorem Rel.at (R : Rel K cl E0 ρ G st H) {i : Nat} {c : Cell} (h : st[i]? = some c) : ∃ a, ρ[i]? = some a ∧ CA K cl ρ G H a c ∧ (c = .dead ∨ G a = none) := by
  have hi : i < st.length := (List.getElem?_eq_some_iff.mp h).1
  have hj : i < ρ.length := by rw [R.len]; exact hi
  exact ⟨ρ[i], by simp [hj], R.cell i c _ h (by simp [hj]), R.sep i c _ h (by simp [hj])⟩
theorem Rel.there (R : Rel K cl E0 ρ G st H) {i : Nat} {a : Addr} (h : ρ[i]? = some a) : ∃ o, H a = some o := by
  have hi : i < ρ.length := (List.getElem?_eq_some_iff.mp h).1
  have hj : i < st.length := by rw [← R.len]; exact hi
  have x := R.cell i _ a (List.getElem?_eq_getElem hj) h
  cases e : st[i] with
  | lst l => rw [e] at x; obtain ⟨vs, z, _⟩ := x; exact ⟨_, z⟩
  | dk ks l => rw [e] at x; obtain ⟨vs, z, _⟩ := x; exact ⟨_, z⟩
  | ins c l => rw [e] at x; obtain ⟨C, dx, ns, vs, _, z, _⟩ := x; exact ⟨_, z⟩
  | dead => rw [e] at x; obtain ⟨o, z⟩ := x; exact ⟨o, R.sub _ _ z⟩
theorem Rel.gnone (R : Rel K cl E0 ρ G st H) {p : Addr} (h : H p = none) : G p = none := by
  cases e : G p with
  | none => rfl
  | some o => rw [R.sub _ _ e] at h; cases h
/-- what is free now was free at the entry -/
theorem Rel.fresh0 (R : Rel K cl E0 ρ G st H) {p : Addr} (h : H p = none) : E0.H0 p = none := by
  cases e : E0.H0 p with
  | none => rfl
  | some u =>
    by_cases q : ∀ i : Nat, i < E0.n0 → ρ[i]? ≠ some p
    · rw [R.old p u e q] at h; cases h
    · exfalso
      apply q
      intro i _ z
      obtain ⟨o, y⟩ := R.there z
      rw [h] at y; cases y
/-- a new object that never changes -/
theorem Rel.froze (R : Rel K cl E0 ρ G st H) {p : Addr} {o : HO} (h : H p = none) (nt : NT o := by intro _ z; cases z) : Rel K cl E0 ρ (upd G p o) st (upd H p o) := by
  have gp := R.gnone h
  have ne : ∀ (i : Nat) a, ρ[i]? = some a → a ≠ p := fun i a e z => by
    obtain ⟨u, q⟩ := R.there e
    rw [z, h] at q; cases q
  refine ⟨R.len, R.nd, fun i c a e1 e2 => ?_, fun i c a e1 e2 => ?_, fun a u e => ?_, fun a u e q => ?_, R.new, R.n0, fun a u e => ?_, R.ent, fun a u e => ?_, fun q hq => tabs_new (R.tabs q hq) h⟩
  · exact (R.cell i c a e1 e2).mono (List.prefix_refl _) (Sub.new gp) (upd_ne (ne i a e2))
  · rw [upd_ne (ne i a e2)]; exact R.sep i c a e1 e2
  · by_cases z : a = p
    · subst z; rw [upd_same] at e ⊢; exact e
    · rw [upd_ne z] at e ⊢; exact R.sub a u e
  · have q2 := R.old a u e q
    rw [upd_ne (ne_of_none q2 h)]; exact q2
  · by_cases z : a = p
    · subst z; exact .inr (.inl (R.fresh0 h))
    · rw [upd_ne z] at e; exact R.grow a u e
  · by_cases z : a = p
    · subst z; rw [upd_same] at e; cases e; exact nt
    · rw [upd_ne z] at e; exact R.gnt a u e
/-- a new cell -/
theorem Rel.cellN (R : Rel K cl E0 ρ G st H) {p : Addr} {o : HO} {c : Cell} (h : H p = none) (hc : c ≠ .dead) (h0 : E0.H0 p = none) (x : CA K cl (ρ ++ [p]) G (upd H p o) p c) : Rel K cl E0 (ρ ++ [p]) G (st ++ [c]) (upd H p o) := by
  have gp := R.gnone h
  have ne : ∀ (i : Nat) a, ρ[i]? = some a → a ≠ p := fun i a e z => by
    obtain ⟨u, q⟩ := R.there e
    rw [z, h] at q; cases q
  have pn : p ∉ ρ := fun m => by
    obtain ⟨i, hi⟩ := List.getElem?_of_mem m
    exact ne i p hi rfl
  have cut : ∀ (i : Nat) (d : Cell) a, (st ++ [c])[i]? = some d → (ρ ++ [p])[i]? = some a → (st[i]? = some d ∧ ρ[i]? = some a) ∨ (d = c ∧ a = p) := fun i d a e1 e2 => by
    by_cases hi : i < st.length
    · rw [List.getElem?_append_left hi] at e1
      rw [List.getElem?_append_left (by rw [R.len]; exact hi)] at e2
      exact .inl ⟨e1, e2⟩
    · have z : i = st.length := by
        have := (List.getElem?_eq_some_iff.mp e1).1
        rw [List.length_append] at this
        simp at this
        omega
      subst z
      rw [List.getElem?_append_right (Nat.le_refl _)] at e1
      rw [← R.len, List.getElem?_append_right (Nat.le_refl _)] at e2
      simp at e1 e2
      exact .inr ⟨e1.symm, e2.symm⟩
  refine ⟨by simp [R.len], ?_, fun i d a e1 e2 => ?_, fun i d a e1 e2 => ?_, fun a u e => ?_, fun a u e q => ?_, fun i a hi e => ?_, by rw [List.length_append]; exact Nat.le_trans R.n0 (Nat.le_add_right _ _), fun a u e => ?_, R.ent, R.gnt, fun q hq => tabs_new (R.tabs q hq) h⟩
  · exact List.nodup_append.mpr ⟨R.nd, by simp, fun a ha b hb => by simp at hb; subst hb; exact fun z => pn (z ▸ ha)⟩
  · rcases cut i d a e1 e2 with ⟨h1, h2⟩ | ⟨rfl, rfl⟩
    · exact (R.cell i d a h1 h2).mono (List.prefix_append _ _) (Sub.refl _) (upd_ne (ne i a h2))
    · exact x
  · rcases cut i d a e1 e2 with ⟨h1, h2⟩ | ⟨rfl, rfl⟩
    · exact R.sep i d a h1 h2
    · exact .inr gp
  · rw [upd_ne (fun z => by rw [z, gp] at e; cases e)]; exact R.sub a u e
  · have q2 := R.old a u e fun i hi z => q i hi (by
      have hl : i < ρ.length := Nat.lt_of_lt_of_le hi R.n0
      rw [List.getElem?_append_left hl]; exact z)
    rw [upd_ne (ne_of_none q2 h)]; exact q2
  · by_cases hl : i < ρ.length
    · rw [List.getElem?_append_left hl] at e; exact R.new i a hi e
    · rw [List.getElem?_append_right (by omega)] at e
      have : a = p := by
        have hz := (List.getElem?_eq_some_iff.mp e).1
        simp at hz
        rw [hz] at e; simp at e; exact e.symm
      subst this; exact h0
  · rcases R.grow a u e with q | q | ⟨i, hi, q⟩
    · exact .inl q
    · exact .inr (.inl q)
    · exact .inr (.inr ⟨i, hi, by rw [List.getElem?_append_left (Nat.lt_of_lt_of_le hi R.n0)]; exact q⟩)
theorem CA.po {K : PySem.W.Frag} {cl : Cls} {ρ : List Addr} {G H : Hp} {a : Addr} : ∀ {c : Cell}, CA K cl ρ G H a c → c ≠ .dead → ∃ u, H a = some u ∧ PlO u
  | .lst l, ⟨vs, h, _⟩, _ => ⟨_, h, po_of trivial⟩
  | .dk ks l, ⟨vs, h, _⟩, _ => ⟨_, h, po_of trivial⟩
  | .ins c l, ⟨C, dx, ns, vs, _, h, _⟩, _ => ⟨_, h, po_of trivial⟩
  | .dead, _, n => absurd rfl n
/-- a table is no cell, and it was none of the entry's objects -/
theorem Rel.tblF (R : Rel K cl E0 ρ G st H) {a : Addr} {ps : Array Value} (h : H a = some (.tbl ps)) : (∀ i : Nat, ρ[i]? ≠ some a) ∧ E0.H0 a = none := by
  have h1 : ∀ i : Nat, ρ[i]? ≠ some a := fun i z => by
    have hi : i < st.length := by rw [← R.len]; exact (List.getElem?_eq_some_iff.mp z).1
    by_cases hcd : st[i] = .dead
    · obtain ⟨o2, z2⟩ := R.cell i _ a (by rw [List.getElem?_eq_getElem hi, hcd]) z
      have z3 := R.sub _ _ z2
      rw [h] at z3
      exact R.gnt a o2 z2 ps (Option.some.inj z3).symm
    · obtain ⟨u2, z2, po⟩ := (R.cell i _ a (List.getElem?_eq_getElem hi) z).po hcd
      rw [h] at z2
      exact po.1 ps (Option.some.inj z2).symm
  refine ⟨h1, ?_⟩
  cases e : E0.H0 a with
  | none => rfl
  | some u =>
    have z1 := R.old a u e fun i _ => h1 i
    rw [h] at z1
    exact absurd (Option.some.inj z1).symm (R.ent a u e ps)
/-- nothing, or a table: not the def's own -/
theorem Rel.offF (R : Rel K cl E0 ρ G st H) {a : Addr} (h : strip H a = none) : (∀ i : Nat, ρ[i]? ≠ some a) ∧ E0.H0 a = none := by
  rcases strip_none h with h | ⟨ps, h⟩
  · refine ⟨fun i z => ?_, R.fresh0 h⟩
    obtain ⟨o, q⟩ := R.there z
    rw [h] at q; cases q
  · exact R.tblF h
/-- a cell written -/
theorem Rel.write (R : Rel K cl E0 ρ G st H) {i : Nat} {c d : Cell} {a : Addr} {o : HO} (h : st[i]? = some c) (hc : c ≠ .dead) (hd : d ≠ .dead) (ha : ρ[i]? = some a) (x : CA K cl ρ G (upd H a o) a d) :
    Rel K cl E0 ρ G (st.set i d) (upd H a o) := by
  have hi : i < st.length := (List.getElem?_eq_some_iff.mp h).1
  have ga : G a = none := (R.sep i c a h ha).resolve_left hc
  have same : ∀ (j : Nat) b, ρ[j]? = some b → b = a → j = i := fun j b e z => by
    subst z
    have h1 := List.getElem?_eq_some_iff.mp e
    have h2 := List.getElem?_eq_some_iff.mp ha
    exact (List.getElem_inj (h₀ := h1.1) (h₁ := h2.1) R.nd).mp (h1.2.trans h2.2.symm)
  obtain ⟨u0, hu0, pu0⟩ := (R.cell i c a h ha).po hc
  refine ⟨by rw [List.length_set]; exact R.len, R.nd, fun j e b e1 e2 => ?_, fun j e b e1 e2 => ?_, fun b u e => ?_, fun b u e q => ?_, R.new, R.n0, R.grow, R.ent, R.gnt, fun q hq => tabs_upd (R.tabs q hq) hu0 pu0⟩
  · by_cases hj : j = i
    · subst hj
      rw [List.getElem?_set_self hi] at e1
      rw [ha] at e2
      cases e1; cases e2; exact x
    · rw [List.getElem?_set_ne (Ne.symm hj)] at e1
      exact (R.cell j e b e1 e2).mono (List.prefix_refl _) (Sub.refl _) (upd_ne fun z => hj (same j b e2 z))
  · by_cases hj : j = i
    · subst hj
      rw [ha] at e2; cases e2
      exact .inr ga
    · rw [List.getElem?_set_ne (Ne.symm hj)] at e1
      exact R.sep j e b e1 e2
  · rw [upd_ne (fun z => by rw [z, ga] at e; cases e)]; exact R.sub b u e
  · have ne : b ≠ a := fun z => by
      subst z
      by_cases hn : i < E0.n0
      · exact q i hn ha
      · rw [R.new i b (by omega) ha] at e; cases e
    rw [upd_ne ne]; exact R.old b u e q
end

/-! ### what is wanted behind a computation -/
def RX (K : PySem.W.Frag) (cl : Cls) (G : Hp) (H : Hp) (x : Exn) (cls : Value) (d : Option Addr) : Prop :=
  ∃ C ns dd vs, cl[x.c]? = some (C, ns) ∧ cls = .ref C ∧ d = some dd ∧ H dd = some (.xd (ns.zip vs)) ∧ ns.length = vs.length ∧ RPs K cl G x.l vs
/-- the entry of a def: fixed through its body -/
structure Bs where
  K : PySem.W.Frag
  cl : Cls
  E0 : En
abbrev Bs.Rel (B : Bs) (ρ : List Addr) (G : Hp) (st : List Cell) (H : Hp) : Prop := Y.Rel B.K B.cl B.E0 ρ G st H
abbrev Bs.RW (B : Bs) (ρ : List Addr) (G : Hp) : W → V → Prop := Y.RW B.K B.cl ρ G
abbrev Bs.RWs (B : Bs) (ρ : List Addr) (G : Hp) : List W → List V → Prop := Y.RWs B.K B.cl ρ G
abbrev Bs.RS (B : Bs) (ρ : List Addr) (G : Hp) : Sg → L2.St → Prop := Y.RS B.K B.cl ρ G
abbrev ZX := Value → Option Addr → Hp → Prop
def Aft (B : Bs) {α β : Type} (V : List Addr → Hp → α → β → Prop) (ρ : List Addr) (G : Hp) (R : Res α) (Q : β → Hp → Prop) (Z : ZX) : Prop := match R with
  | .ok a st => ∀ ρ' G' H' b, ρ <+: ρ' → Sub G G' → B.Rel ρ' G' st H' → V ρ' G' a b → Q b H'
  | .exc x st => ∀ ρ' G' H' cls d, ρ <+: ρ' → Sub G G' → B.Rel ρ' G' st H' → RX B.K B.cl G' H' x cls d → Z cls d H'
  | .no => False
section
variable {B : Bs} {α β γ δ : Type} {U : List Addr → Hp → α → β → Prop} {U2 : List Addr → Hp → γ → δ → Prop} {ρ ρ' : List Addr} {G G' : Hp} {Z : ZX}
theorem Aft.mono {R : Res α} {Q : β → Hp → Prop} (p : ρ <+: ρ') (s : Sub G G') (h : Aft B U ρ G R Q Z) : Aft B U ρ' G' R Q Z := by
  cases R with
  | ok a st => exact fun ρ2 G2 H2 b p2 s2 r u => h ρ2 G2 H2 b (p.trans p2) (s.trans s2) r u
  | exc x st => exact fun ρ2 G2 H2 c d p2 s2 r u => h ρ2 G2 H2 c d (p.trans p2) (s.trans s2) r u
  | no => exact h
theorem Aft.seq {R : Res α} {k : α → List Cell → Res γ} {Q : δ → Hp → Prop} {Q' : β → Hp → Prop} (h : Aft B U2 ρ G (R.bind k) Q Z)
    (g : ∀ a st ρ' G' H' b, R = .ok a st → ρ <+: ρ' → Sub G G' → B.Rel ρ' G' st H' → U ρ' G' a b → Aft B U2 ρ' G' (k a st) Q Z → Q' b H') : Aft B U ρ G R Q' Z := by
  cases R with
  | ok a st => exact fun ρ2 G2 H2 b p s r u => g a st ρ2 G2 H2 b rfl p s r u (Aft.mono p s h)
  | exc x st => exact h
  | no => exact h
end

section
variable {K : PySem.W.Frag} {cl : Cls} {E0 : En} {ρ ρ' : List Addr} {G G' : Hp} {st : List Cell} {H H' : Hp}
/-! an object that is being made: tracked, neither a cell nor frozen yet -/
def En.hold (E0 : En) (G : Hp) (p : Addr) (o : HO) : En := ⟨upd E0.H0 p o, E0.n0, G⟩
theorem Rel.apart (R : Rel K cl E0 ρ G st H) {p : Addr} (h : H p = none) : ∀ (i : Nat), ρ[i]? ≠ some p := fun i e => by
  obtain ⟨u, q⟩ := R.there e
  rw [h] at q; cases q
theorem Rel.hold (R : Rel K cl E0 ρ G st H) {p : Addr} {o : HO} (h : H p = none) (nt : NT o := by intro _ z; cases z) : Rel K cl (E0.hold G p o) ρ G st (upd H p o) := by
  have gp := R.gnone h
  have ne : ∀ (i : Nat) a, ρ[i]? = some a → a ≠ p := fun i a e z => R.apart h i (by rw [e, z])
  refine ⟨R.len, R.nd, fun i c a e1 e2 => (R.cell i c a e1 e2).mono (List.prefix_refl _) (Sub.refl _) (upd_ne (ne i a e2)), R.sep, fun a u e => ?_, fun a u e q => ?_, fun i a hi e => ?_, R.n0, fun a u e => .inl e, fun a u e => ?_, R.gnt, fun q hq => tabs_new (R.tabs q hq) h⟩
  · rw [upd_ne (fun z => by rw [z, gp] at e; cases e)]; exact R.sub a u e
  · have e : upd E0.H0 p o a = some u := e
    by_cases z : a = p
    · subst z; rw [upd_same] at e ⊢; exact e
    · rw [upd_ne z] at e ⊢; exact R.old a u e q
  · show upd E0.H0 p o a = none
    rw [upd_ne (ne i a e)]; exact R.new i a hi e
  · have e : upd E0.H0 p o a = some u := e
    by_cases z : a = p
    · subst z; rw [upd_same] at e; cases e; exact nt
    · rw [upd_ne z] at e; exact R.ent a u e
/-- what is known of the held object later; hn: it is none of the cells handed in -/
theorem Rel.held {p : Addr} {o : HO} {G1 : Hp} (R : Rel K cl (E0.hold G1 p o) ρ G st H) (hn : ∀ i : Nat, i < E0.n0 → ρ[i]? ≠ some p) (g1 : G1 p = none) : H p = some o ∧ G p = none ∧ ∀ i : Nat, ρ[i]? ≠ some p := by
  have a1 : ∀ i : Nat, ρ[i]? ≠ some p := fun i e => by
    by_cases hi : i < E0.n0
    · exact hn i hi e
    · have q : upd E0.H0 p o p = none := R.new i p (by show E0.n0 ≤ i; omega) e
      rw [upd_same] at q; cases q
  refine ⟨R.old p o (show upd E0.H0 p o p = some o from upd_same) hn, ?_, a1⟩
  cases e : G p with
  | none => rfl
  | some u =>
    rcases R.grow p u e with q | q | ⟨i, _, q⟩
    · have q : G1 p = some u := q
      rw [g1] at q; cases q
    · have q : upd E0.H0 p o p = none := q
      rw [upd_same] at q; cases q
    · exact absurd q (a1 i)
theorem Rel.rehold {p : Addr} {o o' : HO} {G1 : Hp} (R : Rel K cl (E0.hold G1 p o) ρ G st H) (po : PlO o) (hn : ∀ i : Nat, i < E0.n0 → ρ[i]? ≠ some p) (g1 : G1 p = none) (nt : NT o' := by intro _ z; cases z) : Rel K cl (E0.hold G p o') ρ G st (upd H p o') := by
  obtain ⟨h1, h2, h3⟩ := R.held hn g1
  have ne : ∀ (i : Nat) a, ρ[i]? = some a → a ≠ p := fun i a e z => h3 i (by rw [e, z])
  refine ⟨R.len, R.nd, fun i c a e1 e2 => (R.cell i c a e1 e2).mono (List.prefix_refl _) (Sub.refl _) (upd_ne (ne i a e2)), R.sep, fun a u e => ?_, fun a u e q => ?_, fun i a hi e => ?_, R.n0, fun a u e => .inl e, fun a u e => ?_, R.gnt, fun q hq => tabs_upd (R.tabs q hq) h1 po⟩
  · rw [upd_ne (fun z => by rw [z, h2] at e; cases e)]; exact R.sub a u e
  · have e : upd E0.H0 p o' a = some u := e
    by_cases z : a = p
    · subst z; rw [upd_same] at e ⊢; exact e
    · rw [upd_ne z] at e ⊢; exact R.old a u (show upd E0.H0 p o a = some u by rw [upd_ne z]; exact e) q
  · show upd E0.H0 p o' a = none
    rw [upd_ne (ne i a e)]
    have q : upd E0.H0 p o a = none := R.new i a hi e
    rw [upd_ne (ne i a e)] at q; exact q
  · have e : upd E0.H0 p o' a = some u := e
    by_cases z : a = p
    · subst z; rw [upd_same] at e; cases e; exact nt
    · rw [upd_ne z] at e; exact R.ent a u (show upd E0.H0 p o a = some u by rw [upd_ne z]; exact e)
/-- back at the def's own entry; R0: the state ahead of the holding -/
theorem Rel.unhold {p : Addr} {o : HO} {G1 : Hp} {ρ0 : List Addr} (R : Rel K cl (E0.hold G1 p o) ρ G st H) (h0 : E0.H0 p = none) (gr : ∀ a u, G1 a = some u → E0.G0 a = some u ∨ E0.H0 a = none ∨ ∃ i : Nat, i < E0.n0 ∧ ρ0[i]? = some a) (pr : ρ0 <+: ρ) (l0 : E0.n0 ≤ ρ0.length) : Rel K cl E0 ρ G st H := by
  refine ⟨R.len, R.nd, R.cell, R.sep, R.sub, fun a u e q => R.old a u (show upd E0.H0 p o a = some u by rw [upd_ne (ne_of_none e h0)]; exact e) q, fun i a hi e => ?_, R.n0, fun a u e => ?_, fun a u e => R.ent a u (show upd E0.H0 p o a = some u by rw [upd_ne (ne_of_none e h0)]; exact e), R.gnt, R.tabs⟩
  · have q : upd E0.H0 p o a = none := R.new i a hi e
    by_cases z : a = p
    · subst z; exact h0
    · rw [upd_ne z] at q; exact q
  · rcases R.grow a u e with q | q | ⟨i, hi, q⟩
    · rcases gr a u q with q | q | ⟨i, hi, q⟩
      · exact .inl q
      · exact .inr (.inl q)
      · obtain ⟨t, rfl⟩ := pr
        exact .inr (.inr ⟨i, hi, by rw [List.getElem?_append_left (Nat.lt_of_lt_of_le hi l0)]; exact q⟩)
    · have q : upd E0.H0 p o a = none := q
      by_cases z : a = p
      · subst z; exact .inr (.inl h0)
      · rw [upd_ne z] at q; exact .inr (.inl q)
    · exact .inr (.inr ⟨i, hi, q⟩)
/-- it has become data -/
theorem Rel.adopt (R : Rel K cl E0 ρ G st H) {p : Addr} {o : HO} (h : H p = some o) (gp : G p = none) (hp : ∀ i : Nat, ρ[i]? ≠ some p) (h0 : E0.H0 p = none) (nt : NT o := by intro _ z; cases z) : Rel K cl E0 ρ (upd G p o) st H := by
  refine ⟨R.len, R.nd, fun i c a e1 e2 => (R.cell i c a e1 e2).mono (List.prefix_refl _) (Sub.new gp) rfl, fun i c a e1 e2 => ?_, fun a u e => ?_, R.old, R.new, R.n0, fun a u e => ?_, R.ent, fun a u e => ?_, R.tabs⟩
  · rw [upd_ne (fun z => hp i (by rw [e2, z]))]; exact R.sep i c a e1 e2
  · by_cases z : a = p
    · subst z; rw [upd_same] at e; cases e; exact h
    · rw [upd_ne z] at e; exact R.sub a u e
  · by_cases z : a = p
    · subst z; exact .inr (.inl h0)
    · rw [upd_ne z] at e; exact R.grow a u e
  · by_cases z : a = p
    · subst z; rw [upd_same] at e; cases e; exact nt
    · rw [upd_ne z] at e; exact R.gnt a u e
/-- it has become a cell -/
theorem Rel.adoptC (R : Rel K cl E0 ρ G st H) {p : Addr} {c : Cell} (hc : c ≠ .dead) (gp : G p = none) (hp : ∀ i : Nat, ρ[i]? ≠ some p) (h0 : E0.H0 p = none) (x : CA K cl (ρ ++ [p]) G H p c) : Rel K cl E0 (ρ ++ [p]) G (st ++ [c]) H := by
  have pn : p ∉ ρ := fun m => by
    obtain ⟨i, hi⟩ := List.getElem?_of_mem m
    exact hp i hi
  have cut : ∀ (i : Nat) (d : Cell) a, (st ++ [c])[i]? = some d → (ρ ++ [p])[i]? = some a → (st[i]? = some d ∧ ρ[i]? = some a) ∨ (d = c ∧ a = p) := fun i d a e1 e2 => by
    by_cases hi : i < st.length
    · rw [List.getElem?_append_left hi] at e1
      rw [List.getElem?_append_left (by rw [R.len]; exact hi)] at e2
      exact .inl ⟨e1, e2⟩
    · have z : i = st.length := by
        have := (List.getElem?_eq_some_iff.mp e1).1
        rw [List.length_append] at this
        simp at this
        omega
      subst z
      rw [List.getElem?_append_right (Nat.le_refl _)] at e1
      rw [← R.len, List.getElem?_append_right (Nat.le_refl _)] at e2
      simp at e1 e2
      exact .inr ⟨e1.symm, e2.symm⟩
  refine ⟨by simp [R.len], ?_, fun i d a e1 e2 => ?_, fun i d a e1 e2 => ?_, R.sub, fun a u e q => ?_, fun i a hi e => ?_, by rw [List.length_append]; exact Nat.le_trans R.n0 (Nat.le_add_right _ _), fun a u e => ?_, R.ent, R.gnt, R.tabs⟩
  · exact List.nodup_append.mpr ⟨R.nd, by simp, fun a ha b hb => by simp at hb; subst hb; exact fun z => pn (z ▸ ha)⟩
  · rcases cut i d a e1 e2 with ⟨h1, h2⟩ | ⟨rfl, rfl⟩
    · exact (R.cell i d a h1 h2).mono (List.prefix_append _ _) (Sub.refl _) rfl
    · exact x
  · rcases cut i d a e1 e2 with ⟨h1, h2⟩ | ⟨rfl, rfl⟩
    · exact R.sep i d a h1 h2
    · exact .inr gp
  · exact R.old a u e fun i hi z => q i hi (by
      have hl : i < ρ.length := Nat.lt_of_lt_of_le hi R.n0
      rw [List.getElem?_append_left hl]; exact z)
  · by_cases hl : i < ρ.length
    · rw [List.getElem?_append_left hl] at e; exact R.new i a hi e
    · rw [List.getElem?_append_right (by omega)] at e
      have : a = p := by
        have hz := (List.getElem?_eq_some_iff.mp e).1
        simp at hz
        rw [hz] at e; simp at e; exact e.symm
      subst this; exact h0
  · rcases R.grow a u e with q | q | ⟨i, hi, q⟩
    · exact .inl q
    · exact .inr (.inl q)
    · exact .inr (.inr ⟨i, hi, by rw [List.getElem?_append_left (Nat.lt_of_lt_of_le hi R.n0)]; exact q⟩)
end
end Y

/-! Y2: expressions: what a combinator computes is what the expression does. -/
namespace Y
open PySem PySem.Spec PyProof.Rows L2

section
variable {X : Cx}
/-- the strongest readings -/
def T (X : Cx) (e : Expr) : TE := fun σ H Q => ∀ (pins : List (Addr × Obj)) (s : Shared), Inv X pins σ H s → wpAny (model X.prog X.w) X.A (eval e X.env) (EP X pins σ Q) X.xe s
def TT' (X : Cx) (e : Expr) : TT := fun σ H Q => ∀ (pins : List (Addr × Obj)) (s : Shared), Inv X pins σ H s → wpAny (model X.prog X.w) X.A (isTrue e X.env (eval e X.env)) (TP X pins σ Q) X.xe s
def TW' (X : Cx) (e : Expr) : TT := fun σ H Q => ∀ (whole : Sem Value) (pins : List (Addr × Obj)) (s : Shared), Inv X pins σ H s → wpAny (model X.prog X.w) X.A (isTrue e X.env whole) (TP X pins σ Q) X.xe s
def TA' (X : Cx) (es : List Expr) : TA := fun σ H Q => ∀ (pos : Pos) (pins : List (Addr × Obj)) (s : Shared), Inv X pins σ H s → wpAny (model X.prog X.w) X.A (spliced (backTo pos (starEach es X.env))) (AP X pins σ Q) X.xe s
theorem T.pe {e : Expr} : PE X e (T X e) := ⟨fun pins s σ H Q I h => h pins s I⟩
theorem TT'.pt {e : Expr} : PT X e (TT' X e) := ⟨fun pins s σ H Q I h => h pins s I⟩
theorem TW'.pw {e : Expr} : PW X e (TW' X e) := ⟨fun wh pins s σ H Q I h => h wh pins s I⟩
theorem TA'.pa {es : List Expr} : PA X es (TA' X es) := ⟨fun pos pins s σ H Q I h => h pos pins s I⟩
theorem T.of {e : Expr} {t : TE} {σ : L2.St} {H : Hp} {Q : VK} (h : PE X e t) (q : t σ H Q) : T X e σ H Q := fun pins s I => h.run pins s σ H Q I q
theorem TT'.of {e : Expr} {t : TT} {σ : L2.St} {H : Hp} {Q : Bool → Hp → Prop} (h : PT X e t) (q : t σ H Q) : TT' X e σ H Q := fun pins s I => h.run pins s σ H Q I q
theorem TW'.of {e : Expr} {t : TT} {σ : L2.St} {H : Hp} {Q : Bool → Hp → Prop} (h : PW X e t) (q : t σ H Q) : TW' X e σ H Q := fun wh pins s I => h.run wh pins s σ H Q I q
theorem TA'.of {es : List Expr} {t : TA} {σ : L2.St} {H : Hp} {Q : List V → Hp → Prop} (h : PA X es t) (q : t σ H Q) : TA' X es σ H Q := fun pos pins s I => h.run pos pins s σ H Q I q
end

abbrev TM := Sg → List Cell → Res Bool
abbrev AM := Sg → List Cell → Res (List W)
abbrev bs (K : PySem.W.Frag) (cl : Cls) (E0 : En) : Bs := ⟨K, cl, E0⟩
abbrev eqB : List Addr → Hp → Bool → Bool → Prop := fun _ _ a b => a = b
structure SE (K : PySem.W.Frag) (cl : Cls) (X : Cx) (Wx : WX) (m : EM) (e : Expr) : Prop where
  run : ∀ E0 ρ G σ st τ H Q, (bs K cl E0).Rel ρ G st H → RS K cl ρ G σ τ → Aft (bs K cl E0) (bs K cl E0).RW ρ G (m σ st) Q (fun c d H' => Wx c d τ H') → T X e τ H Q
structure ST (K : PySem.W.Frag) (cl : Cls) (X : Cx) (Wx : WX) (m : TM) (e : Expr) : Prop where
  run : ∀ E0 ρ G σ st τ H Q, (bs K cl E0).Rel ρ G st H → RS K cl ρ G σ τ → Aft (bs K cl E0) eqB ρ G (m σ st) Q (fun c d H' => Wx c d τ H') → TT' X e τ H Q
structure SW (K : PySem.W.Frag) (cl : Cls) (X : Cx) (Wx : WX) (m : TM) (e : Expr) : Prop where
  run : ∀ E0 ρ G σ st τ H Q, (bs K cl E0).Rel ρ G st H → RS K cl ρ G σ τ → Aft (bs K cl E0) eqB ρ G (m σ st) Q (fun c d H' => Wx c d τ H') → TW' X e τ H Q
structure SA (K : PySem.W.Frag) (cl : Cls) (X : Cx) (Wx : WX) (m : AM) (es : List Expr) : Prop where
  run : ∀ E0 ρ G σ st τ H Q, (bs K cl E0).Rel ρ G st H → RS K cl ρ G σ τ → Aft (bs K cl E0) (bs K cl E0).RWs ρ G (m σ st) Q (fun c d H' => Wx c d τ H') → TA' X es τ H Q
/-- what of the context stays through a def -/
structure GX (K : PySem.W.Frag) (X : Cx) : Prop where
  hK : X.K = K
  hc : X.calm = true
  hN : X.N.Nodup
  hu : X.A.units + 65 < cLine
  hh : X.A.handled = none

section
variable {K : PySem.W.Frag} {cl : Cls} {X : Cx} {Wx : WX} {E0 : En} {ρ ρ' : List Addr} {G G' : Hp} {σ : Sg} {τ : L2.St} {st : List Cell} {H : Hp}
theorem RS.mono (p : ρ <+: ρ') (s : Sub G G') (h : RS K cl ρ G σ τ) : RS K cl ρ' G' σ τ := ⟨h.1, fun i w e => by
  obtain ⟨v, e1, r⟩ := h.2 i w e
  exact ⟨v, e1, r.mono p s⟩⟩
/-- the end of a computation that is over: the state and the value as they stand -/
theorem Aft.here {B : Bs} {α β : Type} {U : List Addr → Hp → α → β → Prop} {a : α} {b : β} {Q : β → Hp → Prop} {Z : ZX} (h : Aft B U ρ G (.ok a st) Q Z) (R : B.Rel ρ G st H) (u : U ρ G a b) : Q b H :=
  h ρ G H b (List.prefix_refl _) (Sub.refl _) R u
/-- .. a new object that never changes -/
theorem Aft.newP {B : Bs} {x : P} {p : Addr} {o : HO} {Q : VK} {Z : ZX} (h : Aft B B.RW ρ G (.ok (.p x) st) Q Z) (R : B.Rel ρ G st H) (hp : H p = none) (u : RP B.K B.cl (upd G p o) x (.ref p)) (nt : NT o := by intro _ z; cases z) : Q (.ref p) (upd H p o) :=
  h ρ (upd G p o) (upd H p o) (.ref p) (List.prefix_refl _) (Sub.new (R.gnone hp)) (R.froze hp nt) u
/-- .. a new cell -/
theorem Aft.newC {B : Bs} {c : Cell} {p : Addr} {o : HO} {Q : VK} {Z : ZX} (h : Aft B B.RW ρ G (.ok (.r st.length) (st ++ [c])) Q Z) (R : B.Rel ρ G st H) (hp : H p = none) (hc : c ≠ .dead) (u : CA B.K B.cl (ρ ++ [p]) G (upd H p o) p c) : Q (.ref p) (upd H p o) :=
  h (ρ ++ [p]) G (upd H p o) (.ref p) (List.prefix_append _ _) (Sub.refl _) (R.cellN hp hc (R.fresh0 hp) u) ⟨p, by rw [← R.len]; simp, rfl⟩

/-! ### names, constants -/
def mVar (i : Nat) : EM := fun σ st => match σ[i]? with
  | some (some w) => .ok w st
  | _ => .no
theorem se_var {i : Nat} {x : Str} {pos : Pos} (hN : X.N[i]? = some x) (hv : Vis X.env.scope x) (hd : (x == ("__debug__" : Str)) = false := by decide +kernel) (hcd : (x == ("__classdict__" : Str)) = false := by decide +kernel) : SE K cl X Wx (mVar i) (.Name x pos) := by
  refine ⟨fun E0 ρ G σ st τ H Q R S h => T.of (pe_var hN hv hd hcd) ?_⟩
  unfold mVar at h
  split at h
  · rename_i w e
    obtain ⟨v, e1, r⟩ := S.2 i w e
    exact ⟨v, e1, h.here R r⟩
  · exact h.elim
def mC (x : P) : EM := fun _ st => .ok (.p x) st
theorem se_C {x : P} {v : V} {e : Expr} (h : PE X e (tC v)) (r : ∀ G, RP K cl G x v) : SE K cl X Wx (mC x) e :=
  ⟨fun E0 ρ G σ st τ H Q R S q => T.of h (Aft.here (b := v) q R (r G))⟩
theorem se_int {i : Int} {j : Nat} {pos : Pos} : SE K cl X Wx (mC (.int i)) (.Constant (.int i) j pos) := se_C pe_int fun _ => .int i
theorem se_bl {i : Bool} {j : Nat} {pos : Pos} : SE K cl X Wx (mC (.bl i)) (.Constant (.bool i) j pos) := se_C pe_bl fun _ => .bl i
theorem se_non {j : Nat} {pos : Pos} : SE K cl X Wx (mC .non) (.Constant .none j pos) := se_C pe_non fun _ => .non
theorem se_str {i : Str} {j : Nat} {pos : Pos} : SE K cl X Wx (mC (.str i)) (.Constant (.str i) j pos) := se_C pe_str fun _ => .str i
/-- a constant of the module -/
theorem se_glob {x : Str} {z : P} {v : V} {u : Value} {pos : Pos} (hg : Gl X x) (hm : X.mg x = some u) (r : RelV v u) (rp : ∀ G, RP K cl G z v) (hd : (x == ("__debug__" : Str)) = false := by decide +kernel) : SE K cl X Wx (mC z) (.Name x pos) := se_C (pe_glob hg hm r hd) rp

/-! ### two values -/
def mBin (f : W → W → List Cell → Res W) (a b : EM) : EM := fun σ st => (a σ st).bind fun x st1 => (b σ st1).bind fun y st2 => f x y st2
/-- a two-place operation by values -/
def VOp (K : PySem.W.Frag) (cl : Cls) (f : W → W → List Cell → Res W) (r : R2) : Prop :=
  ∀ E0 ρ G st H x y v u Q Z, (bs K cl E0).Rel ρ G st H → RW K cl ρ G x v → RW K cl ρ G y u → Aft (bs K cl E0) (bs K cl E0).RW ρ G (f x y st) Q Z → r v u H Q
theorem se_op {t : R2 → TE → TE → TE} {r : R2} {f : W → W → List Cell → Res W} {a b : EM} {pa pb e : Expr} (ht : ∀ σ H Q, (T X pa σ H fun x H1 => T X pb σ H1 fun y H2 => r x y H2 Q) → T X e σ H Q) (hf : VOp K cl f r)
    (ha : SE K cl X Wx a pa) (hb : SE K cl X Wx b pb) : SE K cl X Wx (mBin f a b) e := by
  refine ⟨fun E0 ρ G σ st τ H Q R S h => ht τ H Q ?_⟩
  refine ha.run E0 ρ G σ st τ H _ R S (Aft.seq h fun x st1 ρ1 G1 H1 v e1 p1 s1 R1 u1 h1 => ?_)
  refine hb.run E0 ρ1 G1 σ st1 τ H1 _ R1 (S.mono p1 s1) (Aft.seq h1 fun y st2 ρ2 G2 H2 u e2 p2 s2 R2 u2 h2 => ?_)
  exact hf E0 ρ2 G2 st2 H2 x y v u Q _ R2 (RW.mono p2 s2 u1) u2 h2
theorem se_bin {op : Operator} {r : R2} {f : W → W → List Cell → Res W} {a b : EM} {pa pb : Expr} {pos : Pos} (ho : OpR X (binaryOp op) r) (hf : VOp K cl f r) (ha : SE K cl X Wx a pa) (hb : SE K cl X Wx b pb) :
    SE K cl X Wx (mBin f a b) (.BinOp pa op pb pos) := se_op (t := tOp) (fun σ H Q q => T.of (pe_op ho T.pe T.pe) q) hf ha hb
theorem se_cmp {op : CmpOp} {r : R2} {f : W → W → List Cell → Res W} {a b : EM} {pa pb : Expr} {pos : Pos} (ho : OpR X (compareOp op) r) (hm : behindInMarks op pb = false) (hf : VOp K cl f r) (ha : SE K cl X Wx a pa) (hb : SE K cl X Wx b pb) :
    SE K cl X Wx (mBin f a b) (.Compare pa [op] [pb] pos) := se_op (t := tOp) (fun σ H Q q => T.of (pe_cmpR ho T.pe T.pe hm) q) hf ha hb
theorem VOp.or {f : W → W → List Cell → Res W} {r r' : R2} (h : ∀ E0 ρ G st H x y v u Q Z, (bs K cl E0).Rel ρ G st H → RW K cl ρ G x v → RW K cl ρ G y u → Aft (bs K cl E0) (bs K cl E0).RW ρ G (f x y st) Q Z → r v u H Q ∨ r' v u H Q) : VOp K cl f (fun x y H Q => r x y H Q ∨ r' x y H Q) := h

/-! sequences as they stand -/
def lstOf (st : List Cell) : W → Option (List W)
  | .p (.lst l) => some (l.map .p)
  | .r i => match st[i]? with
    | some (.lst l) => some l
    | _ => none
  | _ => none
theorem lstOf_ok (R : (bs K cl E0).Rel ρ G st H) {w : W} {v : V} (r : RW K cl ρ G w v) {l : List W} (e : lstOf st w = some l) : ∃ a vs, v = .ref a ∧ H a = some (.lst vs) ∧ RWs K cl ρ G l vs := by
  cases w with
  | p x =>
    cases x with
    | lst m =>
      obtain rfl : m.map W.p = l := Option.some.inj e
      cases r with
      | lst h q => exact ⟨_, _, rfl, R.sub _ _ h, .of_pures q⟩
    | _ => cases e
  | r i =>
    obtain ⟨a, ha, rfl⟩ := r
    have e : (match st[i]? with | some (.lst l) => some l | _ => none) = some l := e
    split at e
    · rename_i m em
      cases e
      obtain ⟨b, hb, ⟨vs, h1, h2⟩, _⟩ := R.at em
      have hb : ρ[i]? = some b := hb
      rw [ha] at hb; cases hb
      exact ⟨a, vs, rfl, h1, h2⟩
    · cases e
def LIM : Nat := 1000000
theorem lim_le {n : Nat} (h : n ≤ LIM) : n ≤ sizeLine := by rw [sizeLine_eq]; unfold LIM at h; omega
theorem lim_lt {n : Nat} (h : n < LIM) : n < sizeLine := by rw [sizeLine_eq]; unfold LIM at h; omega

/-! ints -/
def vI2 (C : Int → Int → Bool) (g : Int → Int → P) : W → W → List Cell → Res W
  | .p (.int i), .p (.int j), st => if C i j then .ok (.p (g i j)) st else .no
  | _, _, _ => .no
theorem vI2_ok {C : Int → Int → Bool} {g : Int → Int → P} {g' : Int → Int → V} (hg : ∀ i j G, RP K cl G (g i j) (g' i j)) {D : Int → Int → Prop} (hC : ∀ i j, C i j = true → D i j) : VOp K cl (vI2 C g) (rI D g') := by
  intro E0 ρ G st H x y v u Q Z R rx ry h
  unfold vI2 at h
  split at h
  · rename_i i j
    cases rx; cases ry
    split at h
    · rename_i hc
      exact ⟨i, j, rfl, rfl, hC i j hc, h.here R (hg i j G)⟩
    · exact h.elim
  · exact h.elim
theorem vI2_ok0 {g : Int → Int → P} {g' : Int → Int → V} (hg : ∀ i j G, RP K cl G (g i j) (g' i j)) : VOp K cl (vI2 (fun _ _ => true) g) (rI0 g') := by
  intro E0 ρ G st H x y v u Q Z R rx ry h
  unfold vI2 at h
  split at h
  · rename_i i j
    cases rx; cases ry
    exact ⟨i, j, rfl, rfl, h.here R (hg i j G)⟩
  · exact h.elim
end
end Y

/-! Y3: tests, and | or | not, arguments, displays, items, slices, calls of built-ins. -/
namespace Y
open PySem PySem.Spec PyProof.Rows L2
section
variable {K : PySem.W.Frag} {cl : Cls} {X : Cx} {Wx : WX} {E0 : En} {ρ ρ' : List Addr} {G G' : Hp} {σ : Sg} {τ : L2.St} {st : List Cell} {H : Hp}

/-! ### truth -/
def vTru (st : List Cell) : W → Option Bool
  | .p .non => some false
  | .p (.bl b) => some b
  | .p (.int i) => some (i != 0)
  | .p (.str s) => if s.length ≤ LIM then some ((s.length : Int) != 0) else none
  | .p (.tup l) => some (!l.isEmpty)
  | .p (.lst l) => some (!l.isEmpty)
  | .p (.dk ks _) => some (!ks.isEmpty)
  | .r i => match st[i]? with
    | some (.lst l) => some (!l.isEmpty)
    | some (.dk ks _) => some (!ks.isEmpty)
    | _ => none
  | _ => none
theorem RPs.empty {l : List P} {vs : List V} (r : RPs K cl G l vs) : l.isEmpty = vs.isEmpty := by cases r <;> rfl
theorem RWs.empty {l : List W} {vs : List V} (r : RWs K cl ρ G l vs) : l.isEmpty = vs.isEmpty := by cases r <;> rfl
theorem zip_empty {α β : Type} {l : List α} {m : List β} (h : l.length = m.length) : (l.zip m).isEmpty = l.isEmpty := by
  cases l with
  | nil => rfl
  | cons a l =>
    cases m with
    | nil => cases h
    | cons b m => rfl
theorem vTru_ok (R : (bs K cl E0).Rel ρ G st H) {w : W} {v : V} (r : RW K cl ρ G w v) {k : Bool} (e : vTru st w = some k) : TruV K v H k := by
  cases w with
  | p x =>
    cases r with
    | non => exact (Option.some.inj e).symm
    | bl b => exact (Option.some.inj e).symm
    | int i => exact (Option.some.inj e).symm
    | str s =>
      have e : (if s.length ≤ LIM then some ((s.length : Int) != 0) else none) = some k := e
      split at e
      · rename_i h
        exact ⟨lim_le h, (Option.some.inj e).symm⟩
      · cases e
    | tup h q => exact .inr (.inl ⟨_, R.sub.sqT h, by rw [← q.empty]; exact (Option.some.inj e).symm⟩)
    | lst h q => exact .inl ⟨_, .inl (.inl (R.sub _ _ h)), by rw [← q.empty]; exact (Option.some.inj e).symm⟩
    | dk h z q => exact .inr (.inr ⟨_, R.sub _ _ h, by rw [zip_empty z]; exact (Option.some.inj e).symm⟩)
    | scr h => cases e
    | obj c h z q => cases e
    | exn c x h d z q => cases e
  | r i =>
    obtain ⟨a, ha, rfl⟩ := r
    have e : (match st[i]? with | some (.lst l) => some (!l.isEmpty) | some (.dk ks _) => some (!ks.isEmpty) | _ => none) = some k := e
    split at e
    · rename_i m em
      obtain ⟨b, hb, ⟨vs, h1, h2⟩, _⟩ := R.at em
      have hb : ρ[i]? = some b := hb
      rw [ha] at hb; cases hb
      exact .inl ⟨vs, .inl (.inl h1), by rw [← h2.empty]; exact (Option.some.inj e).symm⟩
    · rename_i ks l em
      obtain ⟨b, hb, ⟨vs, h1, z, h2⟩, _⟩ := R.at em
      have hb : ρ[i]? = some b := hb
      rw [ha] at hb; cases hb
      exact .inr (.inr ⟨_, h1, by rw [zip_empty z]; exact (Option.some.inj e).symm⟩)
    · cases e
def mTru (m : EM) : TM := fun σ st => (m σ st).bind fun w st1 => match vTru st1 w with
  | some k => .ok k st1
  | none => .no
theorem st_tru {a : EM} {pa : Expr} (g : GX K X) (ha : SE K cl X Wx a pa) (he : ∀ whole, isTrue pa X.env whole = (do let v ← whole; standAt pa.pos; holding [v] (truthy v))) : ST K cl X Wx (mTru a) pa := by
  obtain ⟨hK, _⟩ := g
  subst hK
  refine ⟨fun E0 ρ G σ st τ H Q R S h => TT'.of (pt_truth T.pe he) ?_⟩
  refine ha.run E0 ρ G σ st τ H _ R S (Aft.seq h fun x st1 ρ1 G1 H1 v e1 p1 s1 R1 u1 h1 => ?_)
  cases e : vTru st1 x with
  | some k =>
    rw [e] at h1
    exact ⟨k, vTru_ok R1 u1 e, h1.here R1 rfl⟩
  | none => rw [e] at h1; exact h1.elim
/-- a test that is a comparison (its value a bool) -/
def mTst (m : EM) : TM := fun σ st => (m σ st).bind fun w st1 => match w with
  | .p (.bl k) => .ok k st1
  | _ => .no
theorem st_B {a : EM} {pa : Expr} (ht : ∀ σ H Q, (T X pa σ H fun x H1 => ∃ k, x = .bl k ∧ Q k H1) → TT' X pa σ H Q) (ha : SE K cl X Wx a pa) : ST K cl X Wx (mTst a) pa := by
  refine ⟨fun E0 ρ G σ st τ H Q R S h => ht τ H Q ?_⟩
  refine ha.run E0 ρ G σ st τ H _ R S (Aft.seq h fun x st1 ρ1 G1 H1 v e1 p1 s1 R1 u1 h1 => ?_)
  cases x with
  | p x =>
    cases u1 with
    | bl k => exact ⟨k, rfl, h1.here R1 rfl⟩
    | _ => exact h1.elim
  | r i => exact h1.elim
theorem T.bind {e : Expr} {Q Q' : VK} (h : T X e τ H Q) (k : ∀ v H', Q v H' → Q' v H') : T X e τ H Q' := fun pins s I => thn (h pins s I) fun u s1 ⟨v, H1, I1, r, q⟩ => ⟨v, H1, I1, r, k v H1 q⟩
theorem st_cmp {op : CmpOp} {r : R2} {f : W → W → List Cell → Res W} {a b : EM} {pa pb : Expr} {pos : Pos} (ho : OpR X (compareOp op) r) (hm : behindInMarks op pb = false) (hf : VOp K cl f r) (ha : SE K cl X Wx a pa) (hb : SE K cl X Wx b pb) :
    ST K cl X Wx (mTst (mBin f a b)) (.Compare pa [op] [pb] pos) := by
  refine ⟨fun E0 ρ G σ st τ H Q R S h => TT'.of (pt_cmpR ho T.pe T.pe hm) ?_⟩
  have h : Aft (bs K cl E0) eqB ρ G ((a σ st).bind fun x st1 => (b σ st1).bind fun y st2 => (f x y st2).bind fun w st3 => match w with | .p (.bl k) => .ok k st3 | _ => .no) Q (fun c d H' => Wx c d τ H') := by
    have e : mTst (mBin f a b) σ st = ((a σ st).bind fun x st1 => (b σ st1).bind fun y st2 => (f x y st2).bind fun w st3 => match w with | .p (.bl k) => .ok k st3 | _ => .no) := by
      unfold mTst mBin Res.bind
      cases a σ st with
      | ok x st1 =>
        dsimp only
        cases b σ st1 with
        | ok y st2 => rfl
        | exc _ _ => rfl
        | no => rfl
      | exc _ _ => rfl
      | no => rfl
    rw [← e]; exact h
  refine ha.run E0 ρ G σ st τ H _ R S (Aft.seq h fun x st1 ρ1 G1 H1 v e1 p1 s1 R1 u1 h1 => ?_)
  refine hb.run E0 ρ1 G1 σ st1 τ H1 _ R1 (S.mono p1 s1) (Aft.seq h1 fun y st2 ρ2 G2 H2 u e2 p2 s2 R2 u2 h2 => ?_)
  refine hf E0 ρ2 G2 st2 H2 x y v u _ _ R2 (RW.mono p2 s2 u1) u2 (Aft.seq h2 fun w st3 ρ3 G3 H3 z e3 p3 s3 R3 u3 h3 => ?_)
  cases w with
  | p w =>
    cases u3 with
    | bl k => exact ⟨k, rfl, h3.here R3 rfl⟩
    | _ => exact h3.elim
  | r i => exact h3.elim

/-! ### and, or, not -/
def mAndT (a b : TM) : TM := fun σ st => (a σ st).bind fun c st1 => if c = true then b σ st1 else .ok false st1
def mOrT (a b : TM) : TM := fun σ st => (a σ st).bind fun c st1 => if c = true then .ok true st1 else b σ st1
def mNotT (a : TM) : TM := fun σ st => (a σ st).bind fun c st1 => .ok (!c) st1
theorem sw_pt {a : TM} {pa : Expr} (h : SW K cl X Wx a pa) : ST K cl X Wx a pa := ⟨fun E0 ρ G σ st τ H Q R S q => TT'.of (TW'.pw.pt) (h.run E0 ρ G σ st τ H Q R S q)⟩
theorem sw_and1 {a : TM} {pa : Expr} {pos : Pos} (h : ST K cl X Wx a pa) : SW K cl X Wx a (.BoolOp .And [pa] pos) := ⟨fun E0 ρ G σ st τ H Q R S q => TW'.of (pw_and1 TT'.pt) (h.run E0 ρ G σ st τ H Q R S q)⟩
theorem sw_or1 {a : TM} {pa : Expr} {pos : Pos} (h : ST K cl X Wx a pa) : SW K cl X Wx a (.BoolOp .Or [pa] pos) := ⟨fun E0 ρ G σ st τ H Q R S q => TW'.of (pw_or1 TT'.pt) (h.run E0 ρ G σ st τ H Q R S q)⟩
theorem sw_and {a b : TM} {pa pb : Expr} {rest : List Expr} {pos : Pos} (ha : ST K cl X Wx a pa) (hb : SW K cl X Wx b (.BoolOp .And (pb :: rest) pos)) : SW K cl X Wx (mAndT a b) (.BoolOp .And (pa :: pb :: rest) pos) := by
  refine ⟨fun E0 ρ G σ st τ H Q R S h => TW'.of (pw_and TT'.pt TW'.pw) ?_⟩
  refine ha.run E0 ρ G σ st τ H _ R S (Aft.seq h fun c st1 ρ1 G1 H1 d e1 p1 s1 R1 u1 h1 => ?_)
  obtain rfl : c = d := u1
  cases c with
  | true => exact hb.run E0 ρ1 G1 σ st1 τ H1 Q R1 (S.mono p1 s1) h1
  | false => exact h1.here R1 rfl
theorem sw_or {a b : TM} {pa pb : Expr} {rest : List Expr} {pos : Pos} (ha : ST K cl X Wx a pa) (hb : SW K cl X Wx b (.BoolOp .Or (pb :: rest) pos)) : SW K cl X Wx (mOrT a b) (.BoolOp .Or (pa :: pb :: rest) pos) := by
  refine ⟨fun E0 ρ G σ st τ H Q R S h => TW'.of (pw_or TT'.pt TW'.pw) ?_⟩
  refine ha.run E0 ρ G σ st τ H _ R S (Aft.seq h fun c st1 ρ1 G1 H1 d e1 p1 s1 R1 u1 h1 => ?_)
  obtain rfl : c = d := u1
  cases c with
  | true => exact h1.here R1 rfl
  | false => exact hb.run E0 ρ1 G1 σ st1 τ H1 Q R1 (S.mono p1 s1) h1
theorem st_not {a : TM} {pa : Expr} {pos : Pos} (ha : ST K cl X Wx a pa) : ST K cl X Wx (mNotT a) (.UnaryOp .Not pa pos) := by
  refine ⟨fun E0 ρ G σ st τ H Q R S h => TT'.of (pt_not TT'.pt) ?_⟩
  refine ha.run E0 ρ G σ st τ H _ R S (Aft.seq h fun c st1 ρ1 G1 H1 d e1 p1 s1 R1 u1 h1 => ?_)
  obtain rfl : c = d := u1
  exact h1.here R1 rfl
/-- as values: bools but the last one -/
def mAndV (a b : EM) : EM := fun σ st => (a σ st).bind fun w st1 => match w with
  | .p (.bl c) => if c = true then b σ st1 else .ok (.p (.bl false)) st1
  | _ => .no
def mOrV (a b : EM) : EM := fun σ st => (a σ st).bind fun w st1 => match w with
  | .p (.bl c) => if c = true then .ok (.p (.bl true)) st1 else b σ st1
  | _ => .no
def mNotV (a : EM) : EM := fun σ st => (a σ st).bind fun w st1 => match w with
  | .p (.bl c) => .ok (.p (.bl (!c))) st1
  | _ => .no
theorem se_one {op : BoolOp} {a : EM} {pa : Expr} {pos : Pos} (h : SE K cl X Wx a pa) : SE K cl X Wx a (.BoolOp op [pa] pos) := ⟨fun E0 ρ G σ st τ H Q R S q => T.of (pe_one T.pe) (h.run E0 ρ G σ st τ H Q R S q)⟩
theorem se_and {a b : EM} {pa pb : Expr} {rest : List Expr} {pos : Pos} (ha : SE K cl X Wx a pa) (hb : SE K cl X Wx b (.BoolOp .And (pb :: rest) pos)) : SE K cl X Wx (mAndV a b) (.BoolOp .And (pa :: pb :: rest) pos) := by
  refine ⟨fun E0 ρ G σ st τ H Q R S h => T.of (pe_and T.pe T.pe) ?_⟩
  refine ha.run E0 ρ G σ st τ H _ R S (Aft.seq h fun w st1 ρ1 G1 H1 v e1 p1 s1 R1 u1 h1 => ?_)
  cases w with
  | p w =>
    cases u1 with
    | bl c =>
      refine ⟨c, rfl, ?_⟩
      cases c with
      | true => exact hb.run E0 ρ1 G1 σ st1 τ H1 Q R1 (S.mono p1 s1) h1
      | false => exact Aft.here (b := V.bl false) h1 R1 (RP.bl false)
    | _ => exact h1.elim
  | r i => exact h1.elim
theorem se_or {a b : EM} {pa pb : Expr} {rest : List Expr} {pos : Pos} (ha : SE K cl X Wx a pa) (hb : SE K cl X Wx b (.BoolOp .Or (pb :: rest) pos)) : SE K cl X Wx (mOrV a b) (.BoolOp .Or (pa :: pb :: rest) pos) := by
  refine ⟨fun E0 ρ G σ st τ H Q R S h => T.of (pe_or T.pe T.pe) ?_⟩
  refine ha.run E0 ρ G σ st τ H _ R S (Aft.seq h fun w st1 ρ1 G1 H1 v e1 p1 s1 R1 u1 h1 => ?_)
  cases w with
  | p w =>
    cases u1 with
    | bl c =>
      refine ⟨c, rfl, ?_⟩
      cases c with
      | true => exact Aft.here (b := V.bl true) h1 R1 (RP.bl true)
      | false => exact hb.run E0 ρ1 G1 σ st1 τ H1 Q R1 (S.mono p1 s1) h1
    | _ => exact h1.elim
  | r i => exact h1.elim
theorem se_not {a : EM} {pa : Expr} {pos : Pos} (ha : SE K cl X Wx a pa) : SE K cl X Wx (mNotV a) (.UnaryOp .Not pa pos) := by
  refine ⟨fun E0 ρ G σ st τ H Q R S h => T.of (pe_not T.pe) ?_⟩
  refine ha.run E0 ρ G σ st τ H _ R S (Aft.seq h fun w st1 ρ1 G1 H1 v e1 p1 s1 R1 u1 h1 => ?_)
  cases w with
  | p w =>
    cases u1 with
    | bl c => exact ⟨c, rfl, Aft.here (b := V.bl (!c)) h1 R1 (RP.bl (!c))⟩
    | _ => exact h1.elim
  | r i => exact h1.elim
def mIfE (c : TM) (a b : EM) : EM := fun σ st => (c σ st).bind fun k st1 => if k = true then a σ st1 else b σ st1
theorem se_if {c : TM} {a b : EM} {pc pa pb : Expr} {pos : Pos} (hc : ST K cl X Wx c pc) (ha : SE K cl X Wx a pa) (hb : SE K cl X Wx b pb) : SE K cl X Wx (mIfE c a b) (.IfExp pc pa pb pos) := by
  refine ⟨fun E0 ρ G σ st τ H Q R S h => T.of (pe_ifExp TT'.pt T.pe T.pe) ?_⟩
  refine hc.run E0 ρ G σ st τ H _ R S (Aft.seq h fun k st1 ρ1 G1 H1 d e1 p1 s1 R1 u1 h1 => ?_)
  obtain rfl : k = d := u1
  cases k with
  | true => exact ha.run E0 ρ1 G1 σ st1 τ H1 Q R1 (S.mono p1 s1) h1
  | false => exact hb.run E0 ρ1 G1 σ st1 τ H1 Q R1 (S.mono p1 s1) h1

/-! ### arguments, displays -/
def mNil : AM := fun _ st => .ok [] st
def mCons (a : EM) (r : AM) : AM := fun σ st => (a σ st).bind fun w st1 => (r σ st1).bind fun ws st2 => .ok (w :: ws) st2
theorem sa_nil : SA K cl X Wx mNil [] := ⟨fun E0 ρ G σ st τ H Q R S h => TA'.of pa_nil (Aft.here (b := ([] : List V)) h R .nil)⟩
theorem sa_cons {a : EM} {r : AM} {e : Expr} {es : List Expr} (ha : SE K cl X Wx a e) (hr : SA K cl X Wx r es) (hs : starEach (e :: es) X.env = (false, eval e X.env) :: starEach es X.env) : SA K cl X Wx (mCons a r) (e :: es) := by
  refine ⟨fun E0 ρ G σ st τ H Q R S h => TA'.of (pa_cons T.pe TA'.pa hs) ?_⟩
  refine ha.run E0 ρ G σ st τ H _ R S (Aft.seq h fun w st1 ρ1 G1 H1 v e1 p1 s1 R1 u1 h1 => ?_)
  refine hr.run E0 ρ1 G1 σ st1 τ H1 _ R1 (S.mono p1 s1) (Aft.seq h1 fun ws st2 ρ2 G2 H2 vs e2 p2 s2 R2 u2 h2 => ?_)
  exact Aft.here (b := v :: vs) h2 R2 (.cons (RW.mono p2 s2 u1) u2)
/-- a tuple, a list that never changes -/
def mTup (a : AM) : EM := fun σ st => (a σ st).bind fun ws st1 => match pures ws with
  | some l => if l.length ≤ LIM then .ok (.p (.tup l)) st1 else .no
  | none => .no
def mLst (a : AM) : EM := fun σ st => (a σ st).bind fun ws st1 => match pures ws with
  | some l => if l.length ≤ LIM then .ok (.p (.lst l)) st1 else .no
  | none => .no
/-- a list that is a cell -/
def mLstC (a : AM) : EM := fun σ st => (a σ st).bind fun ws st1 => if ws.length ≤ LIM then .ok (.r st1.length) (st1 ++ [.lst ws]) else .no
theorem se_tup {a : AM} {es : List Expr} {k : Nat} {pos : Pos} (ha : SA K cl X Wx a es) : SE K cl X Wx (mTup a) (.Tuple es k pos) := by
  refine ⟨fun E0 ρ G σ st τ H Q R S h => T.of (pe_tup TA'.pa) ?_⟩
  refine ha.run E0 ρ G σ st τ H _ R S (Aft.seq h fun ws st1 ρ1 G1 H1 vs e1 p1 s1 R1 u1 h1 => ?_)
  cases e : pures ws with
  | none => rw [e] at h1; exact h1.elim
  | some l =>
    rw [e] at h1
    have q := u1.pures e
    dsimp only at h1
    split at h1
    · rename_i hl
      refine ⟨by rw [← q.length]; exact lim_le hl, fun p hp => ?_⟩
      exact h1.newP R1 hp (.tup (.inl (.inl upd_same)) (q.mono (Sub.new (R1.gnone hp))))
    · exact h1.elim
theorem se_lst {a : AM} {es : List Expr} {pos : Pos} (ha : SA K cl X Wx a es) : SE K cl X Wx (mLst a) (.List es pos) := by
  refine ⟨fun E0 ρ G σ st τ H Q R S h => T.of (pe_lst TA'.pa) ?_⟩
  refine ha.run E0 ρ G σ st τ H _ R S (Aft.seq h fun ws st1 ρ1 G1 H1 vs e1 p1 s1 R1 u1 h1 => ?_)
  cases e : pures ws with
  | none => rw [e] at h1; exact h1.elim
  | some l =>
    rw [e] at h1
    have q := u1.pures e
    dsimp only at h1
    split at h1
    · rename_i hl
      refine ⟨by rw [← q.length]; exact lim_le hl, fun p hp => ?_⟩
      exact h1.newP R1 hp (.lst upd_same (q.mono (Sub.new (R1.gnone hp))))
    · exact h1.elim
theorem se_lstC {a : AM} {es : List Expr} {pos : Pos} (ha : SA K cl X Wx a es) : SE K cl X Wx (mLstC a) (.List es pos) := by
  refine ⟨fun E0 ρ G σ st τ H Q R S h => T.of (pe_lst TA'.pa) ?_⟩
  refine ha.run E0 ρ G σ st τ H _ R S (Aft.seq h fun ws st1 ρ1 G1 H1 vs e1 p1 s1 R1 u1 h1 => ?_)
  split at h1
  · rename_i hl
    refine ⟨by rw [← u1.length]; exact lim_le hl, fun p hp => ?_⟩
    exact h1.newC R1 hp (fun z => by cases z) ⟨vs, upd_same, RWs.mono (List.prefix_append _ _) (Sub.refl _) u1⟩
  · exact h1.elim

/-! ### calls of built-ins by values -/
def VCall (K : PySem.W.Frag) (cl : Cls) (f : List W → List Cell → Res W) (r : List V → Hp → VK → Prop) : Prop :=
  ∀ E0 ρ G st H ws vs Q Z, (bs K cl E0).Rel ρ G st H → RWs K cl ρ G ws vs → Aft (bs K cl E0) (bs K cl E0).RW ρ G (f ws st) Q Z → r vs H Q
def mCallV (f : List W → List Cell → Res W) (a : AM) : EM := fun σ st => (a σ st).bind f
theorem se_callB {id : String} {r : List V → Hp → VK → Prop} {f : List W → List Cell → Res W} {a : AM} {x : Str} {p pos : Pos} {e : Expr} {es : List Expr} (hc : CallR X (.builtin id) r) (hf : VCall K cl f r) (hg : Gl X x) (hm : X.mg x = none) (hv : bootBuiltins x = some (.builtin id))
    (ha : SA K cl X Wx a (e :: es)) (hn : x ≠ "__name__") (hdb : (x == ("__debug__" : Str)) = false)
    (he : starEach (e :: es) X.env = (false, eval e X.env) :: starEach es X.env) (hpl : (backTo pos (starEach es X.env)).any (·.1) = false) : SE K cl X Wx (mCallV f a) (.Call (.Name x p) (e :: es) [] pos) := by
  refine ⟨fun E0 ρ G σ st τ H Q R S h => T.of (pe_callB hc hg hm hv TA'.pa hn hdb he hpl) ?_⟩
  exact ha.run E0 ρ G σ st τ H _ R S (Aft.seq h fun ws st1 ρ1 G1 H1 vs e1 p1 s1 R1 u1 h1 => hf E0 ρ1 G1 st1 H1 ws vs Q _ R1 u1 h1)
theorem se_callT {id : String} {r : List V → Hp → VK → Prop} {f : List W → List Cell → Res W} {a : AM} {x : Str} {p pos : Pos} {e : Expr} {es : List Expr} (hc : CallR X (.type id) r) (hf : VCall K cl f r) (hg : Gl X x) (hm : X.mg x = none) (hv : bootBuiltins x = some (.type id))
    (ha : SA K cl X Wx a (e :: es)) (hn : x ≠ "__name__") (hdb : (x == ("__debug__" : Str)) = false)
    (he : starEach (e :: es) X.env = (false, eval e X.env) :: starEach es X.env) (hpl : (backTo pos (starEach es X.env)).any (·.1) = false) : SE K cl X Wx (mCallV f a) (.Call (.Name x p) (e :: es) [] pos) := by
  refine ⟨fun E0 ρ G σ st τ H Q R S h => T.of (pe_callTy hc hg hm hv TA'.pa hn hdb he hpl) ?_⟩
  exact ha.run E0 ρ G σ st τ H _ R S (Aft.seq h fun ws st1 ρ1 G1 H1 vs e1 p1 s1 R1 u1 h1 => hf E0 ρ1 G1 st1 H1 ws vs Q _ R1 u1 h1)

/-! ### items -/
theorem se_ix {r : R2} {f : W → W → List Cell → Res W} {a b : EM} {pa pb : Expr} {pos : Pos} (hr : IxR X r) (hf : VOp K cl f r) (hs : PlainIx pb) (ha : SE K cl X Wx a pa) (hb : SE K cl X Wx b pb) :
    SE K cl X Wx (mBin f a b) (.Subscript pa pb pos) := se_op (t := tOp) (fun σ H Q q => T.of (pe_ix hr T.pe T.pe hs) q) hf ha hb
theorem RWs.atI {l : List W} {vs : List V} (r : RWs K cl ρ G l vs) {i : Int} {w : W} (h : L2.atI l i = some w) : ∃ v, L2.atI vs i = some v ∧ RW K cl ρ G w v := by
  unfold L2.atI at h ⊢
  rw [← r.length]
  cases e : ixN l.length i with
  | none => rw [e] at h; cases h
  | some j =>
    rw [e] at h
    exact r.get h
theorem RPs.atI {l : List P} {vs : List V} (r : RPs K cl G l vs) {i : Int} {w : P} (h : L2.atI l i = some w) : ∃ v, L2.atI vs i = some v ∧ RP K cl G w v := by
  unfold L2.atI at h ⊢
  rw [← r.length]
  cases e : ixN l.length i with
  | none => rw [e] at h; cases h
  | some j =>
    rw [e] at h
    exact r.get h
def vIx (x y : W) (st : List Cell) : Res W := match y with
  | .p (.int i) => match x with
    | .p (.tup l) => match L2.atI l i with
      | some z => .ok (.p z) st
      | none => .no
    | .p (.str s) => if s.length ≤ LIM then match L2.atI s.cps.toList i with
      | some c => .ok (.p (.str ⟨#[c]⟩)) st
      | none => .no else .no
    | _ => match lstOf st x with
      | some l => match L2.atI l i with
        | some z => .ok z st
        | none => .no
      | none => .no
  | _ => .no
theorem vIx_ok : VOp K cl vIx (rIx K) := by
  intro E0 ρ G st H x y v u Q Z R rx ry h
  unfold vIx at h
  split at h
  · rename_i i
    cases ry
    split at h
    · rename_i l
      cases rx with
      | tup hs q =>
        split at h
        · rename_i z e
          obtain ⟨v, e2, r2⟩ := q.atI e
          exact .inr (.inl ⟨_, _, i, v, rfl, rfl, R.sub.sqT hs, e2, h.here R r2⟩)
        · exact h.elim
    · rename_i s
      cases rx
      split at h
      · rename_i hl
        split at h
        · rename_i c e
          exact .inr (.inr ⟨s, i, c, rfl, rfl, lim_le hl, e, h.here R (RP.str _)⟩)
        · exact h.elim
      · exact h.elim
    · split at h
      · rename_i l e
        obtain ⟨a, vs, rfl, h1, h2⟩ := lstOf_ok R rx e
        split at h
        · rename_i z e2
          obtain ⟨v, e3, r3⟩ := h2.atI e2
          exact .inl ⟨a, vs, i, v, rfl, rfl, .inl (.inl h1), e3, h.here R r3⟩
        · exact h.elim
      · exact h.elim
  · exact h.elim

/-! ### len -/
def vLen (ws : List W) (st : List Cell) : Res W := match ws with
  | [.p (.tup l)] => .ok (.p (.int l.length)) st
  | [.p (.str s)] => if s.length ≤ LIM then .ok (.p (.int s.length)) st else .no
  | [.p (.dk ks _)] => .ok (.p (.int ks.length)) st
  | [w] => match lstOf st w with
    | some l => .ok (.p (.int l.length)) st
    | none => match w with
      | .r i => match st[i]? with
        | some (.dk ks _) => .ok (.p (.int ks.length)) st
        | _ => .no
      | _ => .no
  | _ => .no
def rLen (K : PySem.W.Frag) : List V → Hp → VK → Prop := fun xs H Q => (∃ x n, xs = [x] ∧ LenV K x H n ∧ Q (.int n) H) ∨ ∃ a kvs, xs = [V.ref a] ∧ H a = some (.dK kvs) ∧ Q (.int kvs.length) H
theorem call_lenA : CallR X (.builtin "len") (rLen X.K) := call_len.or call_lenD
theorem zip_len {α β : Type} {l : List α} {m : List β} (h : l.length = m.length) : (l.zip m).length = l.length := by
  rw [List.length_zip, h, Nat.min_self]
theorem vLen_ok : VCall K cl vLen (rLen K) := by
  intro E0 ρ G st H ws vs Q Z R rw' h
  unfold vLen at h
  split at h
  · rename_i l
    cases rw' with
    | cons r rn =>
      cases rn
      cases r with
      | tup hs q => exact .inl ⟨_, _, rfl, .inr ⟨_, R.sub.sqT hs, rfl⟩, by rw [← q.length]; exact h.here R (RP.int _)⟩
  · rename_i s
    cases rw' with
    | cons r rn =>
      cases rn
      cases r
      split at h
      · rename_i hl
        exact .inl ⟨_, _, rfl, ⟨lim_le hl, rfl⟩, h.here R (RP.int _)⟩
      · exact h.elim
  · rename_i ks l
    cases rw' with
    | cons r rn =>
      cases rn
      cases r with
      | dk hs z q => exact .inr ⟨_, _, rfl, R.sub _ _ hs, by rw [zip_len z]; exact h.here R (RP.int _)⟩
  · rename_i w _ _ _
    cases rw' with
    | cons r rn =>
      cases rn
      split at h
      · rename_i l e
        obtain ⟨a, vs, rfl, h1, h2⟩ := lstOf_ok R r e
        exact .inl ⟨_, _, rfl, .inl ⟨vs, .inl (.inl h1), rfl⟩, by rw [← h2.length]; exact h.here R (RP.int _)⟩
      · split at h
        · rename_i i _
          obtain ⟨a, ha, rfl⟩ := r
          split at h
          · rename_i ks l em
            obtain ⟨b, hb, ⟨vs, h1, z, h2⟩, _⟩ := R.at em
            cases Option.some.inj (ha.symm.trans hb)
            exact .inr ⟨_, _, rfl, h1, by rw [zip_len z]; exact h.here R (RP.int _)⟩
          · exact h.elim
        · exact h.elim
  · exact h.elim
end
end Y

/-! Y4: statements. -/
namespace Y
open PySem PySem.Spec PyProof.Rows L2

/-- how a statement ends -/
inductive SR where
  | ok (f : Fl) (σ : Sg) (st : List Cell) | exc (x : Exn) (σ : Sg) (st : List Cell) | no
abbrev SMm := Sg → List Cell → SR
def SR.then (r : SR) (k : Sg → List Cell → SR) : SR := match r with
  | .ok .nx σ st => k σ st
  | r => r
/-- an expression's end within a statement -/
def Res.to {α : Type} (r : Res α) (σ : Sg) (k : α → List Cell → SR) : SR := match r with
  | .ok a st => k a st
  | .exc x st => .exc x σ st
  | .no => .no
def AftS (B : Bs) (ρ : List Addr) (G : Hp) (R : SR) (D : Ends) (Wx : WX) : Prop := match R with
  | .ok f σ st => ∀ ρ' G' H' τ', ρ <+: ρ' → Sub G G' → B.Rel ρ' G' st H' → B.RS ρ' G' σ τ' → (match f with
    | .nx => D.nx τ' H'
    | .bk => D.bk τ' H'
    | .ct => D.ct τ' H'
    | .rt w => ∀ v, B.RW ρ' G' w v → D.rt v H')
  | .exc x σ st => ∀ ρ' G' H' τ' cls d, ρ <+: ρ' → Sub G G' → B.Rel ρ' G' st H' → B.RS ρ' G' σ τ' → RX B.K B.cl G' H' x cls d → Wx cls d τ' H'
  | .no => False
def TS' (X : Cx) (e : Stmt) : TS := fun D σ H => ∀ (pins : List (Addr × Obj)) (s : Shared), Inv X pins σ H s → wpAny (model X.prog X.w) X.A (exec e X.env) (SP X pins D) X.xe s
def TSs' (X : Cx) (e : List Stmt) : TS := fun D σ H => ∀ (pins : List (Addr × Obj)) (s : Shared), Inv X pins σ H s → wpAny (model X.prog X.w) X.A (execs e X.env) (SP X pins D) X.xe s
theorem TS'.ps {X : Cx} {e : Stmt} : PS X e (TS' X e) := ⟨fun pins s σ H Q I h => h pins s I⟩
theorem TSs'.pss {X : Cx} {e : List Stmt} : PSs X e (TSs' X e) := ⟨fun pins s σ H Q I h => h pins s I⟩
theorem TS'.of {X : Cx} {e : Stmt} {t : TS} {σ : L2.St} {H : Hp} {D : Ends} (h : PS X e t) (q : t D σ H) : TS' X e D σ H := fun pins s I => h.run pins s σ H D I q
theorem TSs'.of {X : Cx} {e : List Stmt} {t : TS} {σ : L2.St} {H : Hp} {D : Ends} (h : PSs X e t) (q : t D σ H) : TSs' X e D σ H := fun pins s I => h.run pins s σ H D I q
structure SS (K : PySem.W.Frag) (cl : Cls) (X : Cx) (Wx : WX) (m : SMm) (e : Stmt) : Prop where
  run : ∀ E0 ρ G σ st τ H D, (bs K cl E0).Rel ρ G st H → RS K cl ρ G σ τ → AftS (bs K cl E0) ρ G (m σ st) D Wx → TS' X e D τ H
structure SSs (K : PySem.W.Frag) (cl : Cls) (X : Cx) (Wx : WX) (m : SMm) (e : List Stmt) : Prop where
  run : ∀ E0 ρ G σ st τ H D, (bs K cl E0).Rel ρ G st H → RS K cl ρ G σ τ → AftS (bs K cl E0) ρ G (m σ st) D Wx → TSs' X e D τ H

section
variable {K : PySem.W.Frag} {cl : Cls} {X : Cx} {Wx : WX} {E0 : En} {ρ ρ' : List Addr} {G G' : Hp} {σ : Sg} {τ : L2.St} {st : List Cell} {H : Hp} {D : Ends}
theorem AftS.mono {B : Bs} {R : SR} (p : ρ <+: ρ') (s : Sub G G') (h : AftS B ρ G R D Wx) : AftS B ρ' G' R D Wx := by
  cases R with
  | ok f σ st => exact fun ρ2 G2 H2 b p2 s2 r u => h ρ2 G2 H2 b (p.trans p2) (s.trans s2) r u
  | exc x σ st => exact fun ρ2 G2 H2 τ c d p2 s2 r u => h ρ2 G2 H2 τ c d (p.trans p2) (s.trans s2) r u
  | no => exact h
theorem AftS.nx {B : Bs} (h : AftS B ρ G (.ok .nx σ st) D Wx) (R : B.Rel ρ G st H) (S : B.RS ρ G σ τ) : D.nx τ H := h ρ G H τ (List.prefix_refl _) (Sub.refl _) R S
theorem AftS.rt {B : Bs} {w : W} {v : V} (h : AftS B ρ G (.ok (.rt w) σ st) D Wx) (R : B.Rel ρ G st H) (S : B.RS ρ G σ τ) (u : B.RW ρ G w v) : D.rt v H := h ρ G H τ (List.prefix_refl _) (Sub.refl _) R S v u
/-- an expression ahead of the rest of a statement -/
theorem AftS.seq {B : Bs} {α β : Type} {U : List Addr → Hp → α → β → Prop} {R : Res α} {k : α → List Cell → SR} {Q' : β → Hp → Prop} (S : B.RS ρ G σ τ) (h : AftS B ρ G (R.to σ k) D Wx)
    (g : ∀ a st ρ' G' H' b, R = .ok a st → ρ <+: ρ' → Sub G G' → B.Rel ρ' G' st H' → U ρ' G' a b → AftS B ρ' G' (k a st) D Wx → Q' b H') : Aft B U ρ G R Q' (fun c d H' => Wx c d τ H') := by
  cases R with
  | ok a st => exact fun ρ2 G2 H2 b p s r u => g a st ρ2 G2 H2 b rfl p s r u (AftS.mono p s h)
  | exc x st => exact fun ρ2 G2 H2 c d p s r u => h ρ2 G2 H2 τ c d p s r (S.mono p s) u
  | no => exact h
theorem AftS.thn {B : Bs} {R : SR} {k : Sg → List Cell → SR} {D' : Ends} (h : AftS B ρ G (R.then k) D Wx)
    (g : ∀ σ st ρ' G' H' τ', R = .ok .nx σ st → ρ <+: ρ' → Sub G G' → B.Rel ρ' G' st H' → B.RS ρ' G' σ τ' → AftS B ρ' G' (k σ st) D Wx → D'.nx τ' H') (hr : D'.rt = D.rt) (hb : D'.bk = D.bk) (hc : D'.ct = D.ct) : AftS B ρ G R D' Wx := by
  cases R with
  | ok f σ st =>
    cases f with
    | nx => exact fun ρ2 G2 H2 τ2 p s r u => g σ st ρ2 G2 H2 τ2 rfl p s r u (AftS.mono p s h)
    | rt w => intro ρ2 G2 H2 τ2 p s r u v q; rw [hr]; exact h ρ2 G2 H2 τ2 p s r u v q
    | bk => intro ρ2 G2 H2 τ2 p s r u; show D'.bk τ2 H2; rw [hb]; exact h ρ2 G2 H2 τ2 p s r u
    | ct => intro ρ2 G2 H2 τ2 p s r u; show D'.ct τ2 H2; rw [hc]; exact h ρ2 G2 H2 τ2 p s r u
  | exc x σ st => exact h
  | no => exact h.elim
theorem RS.set (S : RS K cl ρ G σ τ) {w : W} {v : V} (r : RW K cl ρ G w v) (i : Nat) : RS K cl ρ G (σ.set i (some w)) (τ.set i (some v)) := by
  refine ⟨by rw [List.length_set, List.length_set]; exact S.1, fun j z e => ?_⟩
  by_cases hj : i = j
  · subst hj
    have hl : i < σ.length := by
      have := (List.getElem?_eq_some_iff.mp e).1
      rwa [List.length_set] at this
    rw [List.getElem?_set_self hl] at e
    cases e
    exact ⟨v, List.getElem?_set_self (by rw [← S.1]; exact hl), r⟩
  · rw [List.getElem?_set_ne hj] at e
    obtain ⟨u, e1, r1⟩ := S.2 j z e
    exact ⟨u, by rw [List.getElem?_set_ne hj]; exact e1, r1⟩

/-! ### blocks -/
def sNx : SMm := fun σ st => .ok .nx σ st
def sSeq (a b : SMm) : SMm := fun σ st => (a σ st).then b
theorem ss_nil : SSs K cl X Wx sNx [] := ⟨fun E0 ρ G σ st τ H D R S h => TSs'.of pss_nil (AftS.nx h R S)⟩
theorem ss_one {a : SMm} {s : Stmt} (h : SS K cl X Wx a s) : SSs K cl X Wx a [s] := ⟨fun E0 ρ G σ st τ H D R S q => TSs'.of (pss_one TS'.ps) (h.run E0 ρ G σ st τ H D R S q)⟩
theorem ss_cons {a b : SMm} {s : Stmt} {ss : List Stmt} (h1 : SS K cl X Wx a s) (h2 : SSs K cl X Wx b ss) : SSs K cl X Wx (sSeq a b) (s :: ss) := by
  refine ⟨fun E0 ρ G σ st τ H D R S h => TSs'.of (pss_cons TS'.ps TSs'.pss) ?_⟩
  refine h1.run E0 ρ G σ st τ H _ R S (AftS.thn (D' := { D with nx := TSs' X ss D }) h (fun σ1 st1 ρ1 G1 H1 τ1 e p s R1 S1 h1 => ?_) rfl rfl rfl)
  exact h2.run E0 ρ1 G1 σ1 st1 τ1 H1 D R1 S1 h1

/-! ### plain statements -/
def sPass : SMm := sNx
theorem ss_pass {pos : Pos} : SS K cl X Wx sPass (.Pass pos) := ⟨fun E0 ρ G σ st τ H D R S h => TS'.of ps_pass (AftS.nx h R S)⟩
theorem ss_doc {x : Str} {j : Nat} {p pos : Pos} : SS K cl X Wx sPass (.Expr (.Constant (.str x) j p) pos) := ⟨fun E0 ρ G σ st τ H D R S h => TS'.of ps_doc (AftS.nx h R S)⟩
def sBrk : SMm := fun σ st => .ok .bk σ st
def sCnt : SMm := fun σ st => .ok .ct σ st
theorem ss_break {pos : Pos} : SS K cl X Wx sBrk (.Break pos) := ⟨fun E0 ρ G σ st τ H D R S h => TS'.of ps_break (h ρ G H τ (List.prefix_refl _) (Sub.refl _) R S)⟩
theorem ss_cont {pos : Pos} : SS K cl X Wx sCnt (.Continue pos) := ⟨fun E0 ρ G σ st τ H D R S h => TS'.of ps_continue (h ρ G H τ (List.prefix_refl _) (Sub.refl _) R S)⟩
def sRet (m : EM) : SMm := fun σ st => (m σ st).to σ fun w st1 => .ok (.rt w) σ st1
theorem ss_ret {m : EM} {e : Expr} {pos : Pos} (h : SE K cl X Wx m e) : SS K cl X Wx (sRet m) (.Return (some e) pos) := by
  refine ⟨fun E0 ρ G σ st τ H D R S q => TS'.of (ps_ret T.pe) ?_⟩
  exact h.run E0 ρ G σ st τ H _ R S (AftS.seq S q fun w st1 ρ1 G1 H1 v e1 p1 s1 R1 u1 h1 => AftS.rt h1 R1 (RS.mono p1 s1 S) u1)
def sRetN : SMm := fun σ st => .ok (.rt (.p .non)) σ st
theorem ss_retN {pos : Pos} : SS K cl X Wx sRetN (.Return none pos) := ⟨fun E0 ρ G σ st τ H D R S h => TS'.of ps_retN (AftS.rt (w := .p .non) (v := .non) h R S RP.non)⟩
def sExpr (m : EM) : SMm := fun σ st => (m σ st).to σ fun _ st1 => .ok .nx σ st1
theorem ss_expr {m : EM} {e : Expr} {pos : Pos} (h : SE K cl X Wx m e) (hs : swapsWith e none pos.line X.env = pure false) : SS K cl X Wx (sExpr m) (.Expr e pos) := by
  refine ⟨fun E0 ρ G σ st τ H D R S q => TS'.of (ps_expr T.pe hs) ?_⟩
  exact h.run E0 ρ G σ st τ H _ R S (AftS.seq S q fun w st1 ρ1 G1 H1 v e1 p1 s1 R1 u1 h1 => AftS.nx h1 R1 (RS.mono p1 s1 S))
def sSet (i : Nat) (m : EM) : SMm := fun σ st => (m σ st).to σ fun w st1 => .ok .nx (σ.set i (some w)) st1
theorem ss_set {i : Nat} {m : EM} {x : Str} {e : Expr} {pos pos' : Pos} (g : GX K X) (hi : X.N[i]? = some x) (hx : Loc X.env.scope x) (h : SE K cl X Wx m e) (hs : swapsWith e (some (.Name x pos')) pos.line X.env = pure false)
    (hf : X.fn x = true ∨ X.env.scope.names.lookup x = some .local) : SS K cl X Wx (sSet i m) (.Assign [.Name x pos'] e pos) := by
  refine ⟨fun E0 ρ G σ st τ H D R S q => TS'.of (ps_set g.hN hi hx T.pe hs hf) ?_⟩
  exact h.run E0 ρ G σ st τ H _ R S (AftS.seq S q fun w st1 ρ1 G1 H1 v e1 p1 s1 R1 u1 h1 => AftS.nx h1 R1 ((RS.mono p1 s1 S).set u1 i))
def sIf (c : TM) (a b : SMm) : SMm := fun σ st => (c σ st).to σ fun k st1 => if k = true then a σ st1 else b σ st1
theorem ss_if {c : TM} {a b : SMm} {e : Expr} {sa sb : List Stmt} {pos : Pos} (hc : ST K cl X Wx c e) (ha : SSs K cl X Wx a sa) (hb : SSs K cl X Wx b sb) : SS K cl X Wx (sIf c a b) (.If e sa sb pos) := by
  refine ⟨fun E0 ρ G σ st τ H D R S q => TS'.of (ps_if TT'.pt TSs'.pss TSs'.pss) ?_⟩
  refine hc.run E0 ρ G σ st τ H _ R S (AftS.seq S q fun k st1 ρ1 G1 H1 k' e1 p1 s1 R1 u1 h1 => ?_)
  obtain rfl : k = k' := u1
  cases k with
  | true => exact ha.run E0 ρ1 G1 σ st1 τ H1 D R1 (S.mono p1 s1) h1
  | false => exact hb.run E0 ρ1 G1 σ st1 τ H1 D R1 (S.mono p1 s1) h1

/-! ### targets: names, tuples of targets -/
inductive Tg where
  | nm (i : Nat) | tp (l : List Tg)
mutual
def Tg.put : Tg → W → Sg → Option Sg
  | .nm i, w, σ => some (σ.set i (some w))
  | .tp ts, .p (.tup l), σ => Tg.puts ts l σ
  | .tp _, _, _ => none
def Tg.puts : List Tg → List P → Sg → Option Sg
  | [], [], σ => some σ
  | t :: ts, x :: l, σ => match Tg.put t (.p x) σ with
    | some σ' => Tg.puts ts l σ'
    | none => none
  | _, _, _ => none
end
def TGc (X : Cx) (e : Expr) : TG := fun v σ H Q => ∀ (pins : List (Addr × Obj)) (s : Shared) (u : Value), Inv X pins σ H s → RelV v u →
  wpAny (model X.prog X.w) X.A (PySem.assign e X.env u) (fun _ s' => ∃ σ' H', Inv X pins σ' H' s' ∧ Q σ' H') X.xe s
def TGsc (X : Cx) (es : List Expr) : TGs := fun vs σ H Q => ∀ (pins : List (Addr × Obj)) (s : Shared) (us : List Value), Inv X pins σ H s → Vals vs us →
  wpAny (model X.prog X.w) X.A (assignInOrder ((assignEach es X.env).map (·.2)) us) (fun _ s' => ∃ σ' H', Inv X pins σ' H' s' ∧ Q σ' H') X.xe s
theorem TGc.pg {e : Expr} : PG X e (TGc X e) := ⟨fun pins s σ H v u Q I r h => h pins s u I r⟩
theorem TGsc.pgs {es : List Expr} : PGs X es (TGsc X es) := ⟨fun pins s σ H vs us Q I r h => h pins s us I r⟩
theorem TGc.of {e : Expr} {t : TG} {v : V} {H : Hp} {Q : L2.St → Hp → Prop} (h : PG X e t) (q : t v τ H Q) : TGc X e v τ H Q := fun pins s u I r => h.run pins s τ H v u Q I r q
theorem TGsc.of {es : List Expr} {t : TGs} {vs : List V} {H : Hp} {Q : L2.St → Hp → Prop} (h : PGs X es t) (q : t vs τ H Q) : TGsc X es vs τ H Q := fun pins s us I r => h.run pins s τ H vs us Q I r q
mutual
def Tg.slots : Tg → List Nat
  | .nm i => [i]
  | .tp ts => Tg.slotss ts
def Tg.slotss : List Tg → List Nat
  | [] => []
  | t :: ts => Tg.slots t ++ Tg.slotss ts
end
theorem wipe_get {σ : L2.St} {j : Nat} : ∀ {vs : List Nat}, (wipe σ vs)[j]? = if j ∈ vs ∧ j < σ.length then some none else σ[j]?
  | [] => by simp [wipe]
  | v :: vs => by
    have ih := wipe_get (σ := σ) (j := j) (vs := vs)
    unfold wipe
    by_cases h : v = j
    · subst h
      by_cases hl : v < σ.length
      · rw [List.getElem?_set_self (by rw [wipe_length]; exact hl), if_pos ⟨List.mem_cons_self, hl⟩]
      · rw [if_neg (fun z => hl z.2), List.getElem?_eq_none (by rw [List.length_set, wipe_length]; omega), List.getElem?_eq_none (by omega)]
    · rw [List.getElem?_set_ne h, ih]
      have : j ∈ v :: vs ↔ j ∈ vs := by
        rw [List.mem_cons]
        exact ⟨fun z => z.resolve_left (fun q => h q.symm), .inr⟩
      simp only [this]
theorem wipe_eq {σ σ' : L2.St} {vs : List Nat} (hl : σ.length = σ'.length) (h : ∀ j, j ∉ vs → σ[j]? = σ'[j]?) : wipe σ vs = wipe σ' vs := by
  refine List.ext_getElem? fun j => ?_
  rw [wipe_get, wipe_get, hl]
  by_cases hj : j ∈ vs
  · by_cases hk : j < σ'.length
    · rw [if_pos ⟨hj, hk⟩, if_pos ⟨hj, hk⟩]
    · rw [if_neg (fun z => hk z.2), if_neg (fun z => hk z.2), List.getElem?_eq_none (by omega), List.getElem?_eq_none (by omega)]
  · rw [if_neg (fun z => hj z.1), if_neg (fun z => hj z.1)]; exact h j hj
theorem wipe_set {σ : L2.St} {i : Nat} {x : Option V} {vs : List Nat} (h : i ∈ vs) : wipe (σ.set i x) vs = wipe σ vs :=
  wipe_eq (List.length_set ..) fun j hj => List.getElem?_set_ne (fun z => hj (by rw [← z]; exact h))
theorem wipe_wipe {σ : L2.St} {vs : List Nat} : wipe (wipe σ vs) vs = wipe σ vs :=
  wipe_eq (wipe_length ..) fun j hj => by rw [wipe_get, if_neg (fun z => hj z.1)]
structure SG (K : PySem.W.Frag) (cl : Cls) (X : Cx) (t : Tg) (e : Expr) : Prop where
  run : ∀ ρ G H w v σ σ' τ (Q : L2.St → Hp → Prop), Sub G H → RS K cl ρ G σ τ → RW K cl ρ G w v → t.put w σ = some σ' → (∀ τ', RS K cl ρ G σ' τ' → (∀ vs, (∀ i ∈ t.slots, i ∈ vs) → wipe τ' vs = wipe τ vs) → Q τ' H) → TGc X e v τ H Q
structure SGs (K : PySem.W.Frag) (cl : Cls) (X : Cx) (t : List Tg) (es : List Expr) : Prop where
  run : ∀ ρ G H l vs σ σ' τ (Q : L2.St → Hp → Prop), Sub G H → RS K cl ρ G σ τ → RPs K cl G l vs → Tg.puts t l σ = some σ' → (∀ τ', RS K cl ρ G σ' τ' → (∀ vs, (∀ i ∈ Tg.slotss t, i ∈ vs) → wipe τ' vs = wipe τ vs) → Q τ' H) → TGsc X es vs τ H Q
theorem sg_name {i : Nat} {x : Str} {pos : Pos} (g : GX K X) (hi : X.N[i]? = some x) (hx : Loc X.env.scope x) (hf : X.fn x = true ∨ X.env.scope.names.lookup x = some .local) : SG K cl X (.nm i) (.Name x pos) := by
  refine ⟨fun ρ G H w v σ σ' τ Q sub S r e k => TGc.of (pg_name g.hN hi hx hf) ?_⟩
  have e : some (σ.set i (some w)) = some σ' := by simpa [Tg.put] using e
  cases e
  exact k _ (S.set r i) fun vs h => wipe_set (h i (by simp [Tg.slots]))
theorem sgs_nil : SGs K cl X [] [] := by
  refine ⟨fun ρ G H l vs σ σ' τ Q sub S r e k => TGsc.of pgs_nil ?_⟩
  cases r with
  | nil =>
    have e : some σ = some σ' := by simpa [Tg.puts] using e
    cases e
    exact ⟨rfl, k _ S fun _ _ => rfl⟩
  | cons _ _ => simp [Tg.puts] at e
theorem sgs_cons {t : Tg} {ts : List Tg} {e : Expr} {es : List Expr} (h1 : SG K cl X t e) (h2 : SGs K cl X ts es) (hs : (assignEach (e :: es) X.env).map (·.2) = PySem.assign e X.env :: (assignEach es X.env).map (·.2)) : SGs K cl X (t :: ts) (e :: es) := by
  refine ⟨fun ρ G H l vs σ σ' τ Q sub S r e k => TGsc.of (pgs_cons TGc.pg TGsc.pgs hs) ?_⟩
  cases r with
  | nil => simp [Tg.puts] at e
  | cons r rs =>
    simp only [Tg.puts] at e
    split at e
    · rename_i σ1 e1
      refine ⟨_, _, rfl, ?_⟩
      exact h1.run ρ G H (.p _) _ σ σ1 τ _ sub S r e1 fun τ1 S1 w1 => h2.run ρ G H _ _ σ1 σ' τ1 Q sub S1 rs e fun τ2 S2 w2 => k τ2 S2 fun vs h =>
        (w2 vs fun i hi => h i (by simp [Tg.slotss, hi])).trans (w1 vs fun i hi => h i (by simp [Tg.slotss, hi]))
    · cases e
theorem puts_len : ∀ {ts : List Tg} {l : List P} {σ σ' : Sg}, Tg.puts ts l σ = some σ' → l.length = ts.length
  | [], [], _, _, _ => rfl
  | t :: ts, x :: l, σ, σ', e => by
    simp only [Tg.puts] at e
    split at e
    · exact congrArg Nat.succ (puts_len e)
    · cases e
  | [], _ :: _, _, _, e => by simp [Tg.puts] at e
  | _ :: _, [], _, _, e => by simp [Tg.puts] at e
theorem sg_tup {ts : List Tg} {es : List Expr} {k : Nat} {pos : Pos} (g : GX K X) (h : SGs K cl X ts es) (hl : es.length = ts.length) (hn : (assignEach es X.env).length = es.length) (hst : (assignEach es X.env).findIdx? (·.1) = none) : SG K cl X (.tp ts) (.Tuple es k pos) := by
  refine ⟨fun ρ G H w v σ σ' τ Q sub S r e k => TGc.of (pg_tup (n := es.length) g.hc TGsc.pgs hn hst) ?_⟩
  cases w with
  | r i => simp [Tg.put] at e
  | p x =>
    cases r with
    | tup hs q =>
      simp only [Tg.put] at e
      refine ⟨_, _, rfl, ?_, ?_, h.run ρ G H _ _ σ σ' τ Q sub S q e k⟩
      · rw [g.hK]; exact sub.sqT hs
      · rw [← q.length, hl]; exact puts_len e
    | _ => simp [Tg.put] at e
/-- a, b = e (e a tuple) -/
def sPut (t : Tg) (m : EM) : SMm := fun σ st => (m σ st).to σ fun w st1 => match t.put w σ with
  | some σ' => .ok .nx σ' st1
  | none => .no
theorem ss_put {t : Tg} {m : EM} {tg e : Expr} {pos : Pos} (ht : SG K cl X t tg) (h : SE K cl X Wx m e) (hs : swapsWithSole [tg] e pos.line X.env = pure false) (hw : swappedStores [tg] e X.env = pure none)
    (h1 : (assignEach [tg] X.env).map (·.2) = [PySem.assign tg X.env]) : SS K cl X Wx (sPut t m) (.Assign [tg] e pos) := by
  refine ⟨fun E0 ρ G σ st τ H D R S q => TS'.of (ps_asg T.pe TGc.pg hs hw h1) ?_⟩
  refine h.run E0 ρ G σ st τ H _ R S (AftS.seq S q fun w st1 ρ1 G1 H1 v e1 p1 s1 R1 u1 h1 => ?_)
  split at h1
  · rename_i σ' e
    exact ht.run ρ1 G1 H1 w v σ σ' τ _ R1.sub (S.mono p1 s1) u1 e fun τ' S' _ => AftS.nx h1 R1 S'
  · exact h1.elim
/-- a, b = x, y and a, b, c = x, y, z with plain locals -/
def sPar (i j : Nat) (a : AM) : SMm := fun σ st => (a σ st).to σ fun ws st1 => match ws with
  | [v, w] => .ok .nx ((σ.set i (some v)).set j (some w)) st1
  | _ => .no
theorem ss_par {i j : Nat} {x y : Str} {a b : Expr} {m : AM} {px py pt : Pos} {kt k2 : Nat} {pt2 pos : Pos} (g : GX K X) (hi : X.N[i]? = some x) (hj : X.N[j]? = some y) (hij : i ≠ j)
    (hx : X.env.scope.names.lookup x = some .local) (hy : X.env.scope.names.lookup y = some .local) (ha : SA K cl X Wx m [a, b])
    (hw : swappedStores [.Tuple [.Name x px, .Name y py] kt pt] (.Tuple [a, b] k2 pt2) X.env = pure (some [x, y]))
    (hs : swapsWithSole [.Tuple [.Name x px, .Name y py] kt pt] (.Tuple [a, b] k2 pt2) pos.line X.env = pure false) :
    SS K cl X Wx (sPar i j m) (.Assign [.Tuple [.Name x px, .Name y py] kt pt] (.Tuple [a, b] k2 pt2) pos) := by
  refine ⟨fun E0 ρ G σ st τ H D R S q => TS'.of (ps_par g.hc g.hN hi hj hij hx hy TA'.pa hw hs) ?_⟩
  refine ha.run E0 ρ G σ st τ H _ R S (AftS.seq S q fun ws st1 ρ1 G1 H1 vs e1 p1 s1 R1 u1 h1 => ?_)
  split at h1
  · rename_i v w
    cases u1 with
    | cons r1 u2 =>
      cases u2 with
      | cons r2 u3 =>
        cases u3
        exact ⟨_, _, rfl, AftS.nx h1 R1 (((RS.mono p1 s1 S).set r1 i).set r2 j)⟩
  · exact h1.elim
def sPar3 (i j l : Nat) (a : AM) : SMm := fun σ st => (a σ st).to σ fun ws st1 => match ws with
  | [u, v, w] => .ok .nx (((σ.set i (some u)).set j (some v)).set l (some w)) st1
  | _ => .no
theorem ss_par3 {i j l : Nat} {x y z : Str} {a b c : Expr} {m : AM} {px py pz pt : Pos} {kt k2 : Nat} {pt2 pos : Pos} (g : GX K X) (hi : X.N[i]? = some x) (hj : X.N[j]? = some y) (hl : X.N[l]? = some z) (hij : i ≠ j) (hil : i ≠ l) (hjl : j ≠ l)
    (hx : X.env.scope.names.lookup x = some .local) (hy : X.env.scope.names.lookup y = some .local) (hz : X.env.scope.names.lookup z = some .local) (ha : SA K cl X Wx m [a, b, c])
    (hw : swappedStores [.Tuple [.Name x px, .Name y py, .Name z pz] kt pt] (.Tuple [a, b, c] k2 pt2) X.env = pure (some [x, y, z]))
    (hs : swapsWithSole [.Tuple [.Name x px, .Name y py, .Name z pz] kt pt] (.Tuple [a, b, c] k2 pt2) pos.line X.env = pure false) :
    SS K cl X Wx (sPar3 i j l m) (.Assign [.Tuple [.Name x px, .Name y py, .Name z pz] kt pt] (.Tuple [a, b, c] k2 pt2) pos) := by
  refine ⟨fun E0 ρ G σ st τ H D R S q => TS'.of (ps_par3 g.hc g.hN hi hj hl hij hil hjl hx hy hz TA'.pa hw hs) ?_⟩
  refine ha.run E0 ρ G σ st τ H _ R S (AftS.seq S q fun ws st1 ρ1 G1 H1 vs e1 p1 s1 R1 u1 h1 => ?_)
  split at h1
  · rename_i u v w
    cases u1 with
    | cons r1 u2 =>
      cases u2 with
      | cons r2 u3 =>
        cases u3 with
        | cons r3 u4 =>
          cases u4
          exact ⟨_, _, _, rfl, AftS.nx h1 R1 ((((RS.mono p1 s1 S).set r1 i).set r2 j).set r3 l)⟩
  · exact h1.elim

/-! ### while -/
def whileF (c : TM) (b : SMm) : Nat → Sg → List Cell → SR
  | 0, _, _ => .no
  | n + 1, σ, st => (c σ st).to σ fun k st1 => if k = true then (match b σ st1 with
    | .ok .nx σ2 st2 => whileF c b n σ2 st2
    | .ok .ct σ2 st2 => whileF c b n σ2 st2
    | .ok .bk σ2 st2 => .ok .nx σ2 st2
    | r => r) else .ok .nx σ st1
def sWhile (n : Nat) (c : TM) (b : SMm) : SMm := fun σ st => whileF c b n σ st
theorem ss_while {n : Nat} {c : TM} {b : SMm} {e : Expr} {sb : List Stmt} {pos : Pos} (hp : PassesOwn (model X.prog X.w) X.A X.env X.xe) (hc : ST K cl X Wx c e) (hb : SSs K cl X Wx b sb) : SS K cl X Wx (sWhile n c b) (.While e sb [] pos) := by
  refine ⟨fun E0 ρ G σ st τ H D R S q => TS'.of (ps_while hp TT'.pt TSs'.pss) ?_⟩
  refine ⟨fun m τ' H' => ∃ ρ' G' σ' st', (bs K cl E0).Rel ρ' G' st' H' ∧ RS K cl ρ' G' σ' τ' ∧ AftS (bs K cl E0) ρ' G' (whileF c b m σ' st') D Wx, ⟨n, ρ, G, σ, st, R, S, q⟩, ?_⟩
  rintro m τ1 H1 ⟨ρ1, G1, σ1, st1, R1, S1, q1⟩
  cases m with
  | zero => exact q1.elim
  | succ m =>
    refine hc.run E0 ρ1 G1 σ1 st1 τ1 H1 _ R1 S1 (AftS.seq S1 q1 fun k st2 ρ2 G2 H2 k' e2 p2 s2 R2 u2 h2 => ?_)
    obtain rfl : k = k' := u2
    cases k with
    | false => exact AftS.nx h2 R2 (RS.mono p2 s2 S1)
    | true =>
      refine ⟨fun τ' H' => ∃ m', m' < m + 1 ∧ ∃ ρ' G' σ' st', (bs K cl E0).Rel ρ' G' st' H' ∧ RS K cl ρ' G' σ' τ' ∧ AftS (bs K cl E0) ρ' G' (whileF c b m' σ' st') D Wx, fun _ _ z => z, ?_⟩
      refine hb.run E0 ρ2 G2 σ1 st2 τ1 H2 _ R2 (RS.mono p2 s2 S1) ?_
      have h2 : AftS (bs K cl E0) ρ2 G2 (match b σ1 st2 with
        | .ok .nx σ2 st2 => whileF c b m σ2 st2
        | .ok .ct σ2 st2 => whileF c b m σ2 st2
        | .ok .bk σ2 st2 => .ok .nx σ2 st2
        | r => r) D Wx := h2
      cases er : b σ1 st2 with
      | no => rw [er] at h2; exact h2.elim
      | exc x σ3 st3 => rw [er] at h2; exact h2
      | ok f σ3 st3 =>
        rw [er] at h2
        cases f with
        | nx => exact fun ρ3 G3 H3 τ3 p3 s3 R3 S3 => ⟨m, Nat.lt_succ_self m, ρ3, G3, σ3, st3, R3, S3, AftS.mono p3 s3 h2⟩
        | ct => exact fun ρ3 G3 H3 τ3 p3 s3 R3 S3 => ⟨m, Nat.lt_succ_self m, ρ3, G3, σ3, st3, R3, S3, AftS.mono p3 s3 h2⟩
        | bk => exact fun ρ3 G3 H3 τ3 p3 s3 R3 S3 => h2 ρ3 G3 H3 τ3 p3 s3 R3 S3
        | rt w => exact h2
end
end Y

/-! Y5: what is walked; for; list comprehensions of one and of two clauses. -/
namespace Y
open PySem PySem.Spec PyProof.Rows L2

/-- what is walked: at turn i in a state: not known, over, or the next value; n: no more turns than that -/
structure Src where
  get : List Cell → Nat → Option (Option W)
  n : Nat
abbrev IM := Sg → List Cell → Res Src
def WOk (K : PySem.W.Frag) (cl : Cls) (ρ : List Addr) (G : Hp) (J : It) (src : Src) : Prop :=
  ∀ E0 ρ' G' st H i, ρ <+: ρ' → Sub G G' → (bs K cl E0).Rel ρ' G' st H → match src.get st i with
    | none => True
    | some none => J.stop i H
    | some (some w) => J.go i H ∧ ∀ x H', J.yld i H x H' → ∃ G'', Sub G' G'' ∧ (bs K cl E0).Rel ρ' G'' st H' ∧ RW K cl ρ' G'' w x
def TIc (X : Cx) (tg e : Expr) : TI := fun σ H R => ∀ (pins : List (Addr × Obj)) (s : Shared), Inv X pins σ H s →
  wpAny (model X.prog X.w) X.A (eval e X.env) (fun v s1 => wpAny (model X.prog X.w) X.A (pyIter v) (PIE X pins σ tg R) X.xe s1) X.xe s
theorem TIc.pi {X : Cx} {tg e : Expr} : PI X tg e (TIc X tg e) := ⟨fun pins s σ H R I h => h pins s I⟩
theorem TIc.of {X : Cx} {tg e : Expr} {wi : TI} {σ : L2.St} {H : Hp} {R : It → Hp → Prop} (h : PI X tg e wi) (q : wi σ H R) : TIc X tg e σ H R := fun pins s I => h.run pins s σ H R I q
structure SI (K : PySem.W.Frag) (cl : Cls) (X : Cx) (Wx : WX) (tg : Expr) (m : IM) (e : Expr) : Prop where
  run : ∀ E0 ρ G σ st τ H R, (bs K cl E0).Rel ρ G st H → RS K cl ρ G σ τ → Aft (bs K cl E0) (fun ρ G (a : Src) (J : It) => WOk K cl ρ G J a) ρ G (m σ st) R (fun c d H' => Wx c d τ H') → TIc X tg e τ H R

section
variable {K : PySem.W.Frag} {cl : Cls} {X : Cx} {Wx : WX} {E0 : En} {ρ ρ' : List Addr} {G G' : Hp} {σ : Sg} {τ : L2.St} {st : List Cell} {H : Hp} {D : Ends}

/-! ### for -/
def forF (src : Src) (t : Tg) (b : SMm) : Nat → Nat → Sg → List Cell → SR
  | 0, _, _, _ => .no
  | n + 1, i, σ, st => match src.get st i with
    | none => .no
    | some none => .ok .nx σ st
    | some (some w) => match t.put w σ with
      | none => .no
      | some σ1 => match b σ1 st with
        | .ok .nx σ2 st2 => forF src t b n (i + 1) σ2 st2
        | .ok .ct σ2 st2 => forF src t b n (i + 1) σ2 st2
        | .ok .bk σ2 st2 => .ok .nx σ2 st2
        | r => r
def sFor (m : IM) (t : Tg) (b : SMm) : SMm := fun σ st => (m σ st).to σ fun src st1 => forF src t b (src.n + 1) 0 σ st1
theorem ss_for {m : IM} {t : Tg} {b : SMm} {tg iter : Expr} {body : List Stmt} {pos : Pos} (hp : PassesOwn (model X.prog X.w) X.A X.env X.xe) (g : GX K X) (hi : SI K cl X Wx tg m iter) (ht : SG K cl X t tg) (hb : SSs K cl X Wx b body)
    (hs : ∀ x, foldedSetIterable iter X.env x = pure x := by intro _; rfl) : SS K cl X Wx (sFor m t b) (.For tg iter body [] pos) := by
  refine ⟨fun E0 ρ G σ st τ H D R S q => TS'.of (ps_for hp g.hc TIc.pi TGc.pg TSs'.pss hs) ?_⟩
  refine hi.run E0 ρ G σ st τ H _ R S (AftS.seq S q fun src st1 ρ1 G1 H1 J e1 p1 s1 R1 wok h1 => ?_)
  refine ⟨fun i k τ' H' => ∃ ρ' G' σ' st', ρ1 <+: ρ' ∧ Sub G1 G' ∧ (bs K cl E0).Rel ρ' G' st' H' ∧ RS K cl ρ' G' σ' τ' ∧ AftS (bs K cl E0) ρ' G' (forF src t b k i σ' st') D Wx, ⟨src.n + 1, ρ1, G1, σ, st1, List.prefix_refl _, Sub.refl _, R1, S.mono p1 s1, h1⟩, ?_⟩
  rintro i k τ2 H2 ⟨ρ2, G2, σ2, st2, p2, s2, R2, S2, q2⟩
  cases k with
  | zero => exact q2.elim
  | succ k =>
    have w2 := wok E0 ρ2 G2 st2 H2 i p2 s2 R2
    unfold forF at q2
    cases eg : src.get st2 i with
    | none => rw [eg] at q2; exact q2.elim
    | some ow =>
      rw [eg] at q2 w2
      cases ow with
      | none => exact .inl ⟨w2, AftS.nx q2 R2 S2⟩
      | some w =>
        dsimp only at q2 w2
        refine .inr ⟨w2.1, fun τ' H' => ∃ ρ' G' σ' st', ρ1 <+: ρ' ∧ Sub G1 G' ∧ (bs K cl E0).Rel ρ' G' st' H' ∧ RS K cl ρ' G' σ' τ' ∧ AftS (bs K cl E0) ρ' G' (forF src t b k (i + 1) σ' st') D Wx, fun τ' H' z => ⟨k, Nat.lt_succ_self k, z⟩, fun x H3 y => ?_⟩
        obtain ⟨G3, s3, R3, r3⟩ := w2.2 x H3 y
        cases ep : t.put w σ2 with
        | none => rw [ep] at q2; exact q2.elim
        | some σ3 =>
          rw [ep] at q2
          dsimp only at q2
          refine ht.run ρ2 G3 H3 w x σ2 σ3 τ2 _ R3.sub (S2.mono (List.prefix_refl _) s3) r3 ep fun τ3 S3 _ => ?_
          refine hb.run E0 ρ2 G3 σ3 st2 τ3 H3 _ R3 S3 ?_
          cases er : b σ3 st2 with
          | no => rw [er] at q2; exact q2.elim
          | exc x σ4 st4 => rw [er] at q2; exact AftS.mono (List.prefix_refl _) s3 q2
          | ok f σ4 st4 =>
            rw [er] at q2
            cases f with
            | nx => exact fun ρ4 G4 H4 τ4 p4 s4 R4 S4 => ⟨ρ4, G4, σ4, st4, p2.trans p4, s2.trans (s3.trans s4), R4, S4, AftS.mono p4 (s3.trans s4) q2⟩
            | ct => exact fun ρ4 G4 H4 τ4 p4 s4 R4 S4 => ⟨ρ4, G4, σ4, st4, p2.trans p4, s2.trans (s3.trans s4), R4, S4, AftS.mono p4 (s3.trans s4) q2⟩
            | bk => exact fun ρ4 G4 H4 τ4 p4 s4 R4 S4 => q2 ρ4 G4 H4 τ4 p4 (s3.trans s4) R4 S4
            | rt w => exact AftS.mono (List.prefix_refl _) s3 q2

/-! ### the new list of a comprehension -/
structure Hd (K : PySem.W.Frag) (cl : Cls) (E0 : En) (D : Addr) (ρ : List Addr) (G : Hp) (st : List Cell) (H : Hp) (acc : List W) (Gh : Hp) (vs : List V) : Prop where
  gD : Gh D = none
  gr : ∀ a u, Gh a = some u → E0.G0 a = some u ∨ E0.H0 a = none ∨ ∃ i : Nat, i < E0.n0 ∧ ρ[i]? = some a
  hn : ∀ i : Nat, i < E0.n0 → ρ[i]? ≠ some D
  l0 : E0.n0 ≤ ρ.length
  h0 : E0.H0 D = none
  rw : RWs K cl ρ G acc vs
  R : (bs K cl (E0.hold Gh D (.lst vs))).Rel ρ G st H
theorem Hd.start {Dd : Addr} (R : (bs K cl E0).Rel ρ G st H) (h : H Dd = none) : Hd K cl E0 Dd ρ G st (upd H Dd (.lst [])) [] G [] :=
  ⟨R.gnone h, R.grow, fun i _ => R.apart h i, R.n0, R.fresh0 h, .nil, R.hold h⟩
section
variable {Dd : Addr} {acc : List W} {Gh : Hp} {vs : List V} {st' : List Cell} {H' : Hp}
theorem Hd.held (h : Hd K cl E0 Dd ρ G st H acc Gh vs) : H Dd = some (.lst vs) ∧ G Dd = none ∧ ∀ i : Nat, ρ[i]? ≠ some Dd := Rel.held h.R h.hn h.gD
theorem Hd.next (h : Hd K cl E0 Dd ρ G st H acc Gh vs) (p : ρ <+: ρ') (s : Sub G G') (R : (bs K cl (E0.hold Gh Dd (.lst vs))).Rel ρ' G' st' H') : Hd K cl E0 Dd ρ' G' st' H' acc Gh vs := by
  have keep : ∀ i : Nat, i < E0.n0 → ρ'[i]? = ρ[i]? := fun i hi => by
    obtain ⟨t, rfl⟩ := p
    exact List.getElem?_append_left (Nat.lt_of_lt_of_le hi h.l0)
  refine ⟨h.gD, fun a u e => ?_, fun i hi => by rw [keep i hi]; exact h.hn i hi, Nat.le_trans h.l0 p.length_le, h.h0, h.rw.mono p s, R⟩
  rcases h.gr a u e with q | q | ⟨i, hi, q⟩
  · exact .inl q
  · exact .inr (.inl q)
  · exact .inr (.inr ⟨i, hi, by rw [keep i hi]; exact q⟩)
theorem Hd.back (h : Hd K cl E0 Dd ρ G st H acc Gh vs) : (bs K cl E0).Rel ρ G st H := Rel.unhold h.R h.h0 h.gr (List.prefix_refl _) h.l0
theorem Hd.push (h : Hd K cl E0 Dd ρ G st H acc Gh vs) {w : W} {y : V} (r : RW K cl ρ G w y) : Hd K cl E0 Dd ρ G st (upd H Dd (.lst (vs ++ [y]))) (acc ++ [w]) G (vs ++ [y]) :=
  ⟨h.held.2.1, h.back.grow, h.hn, h.l0, h.h0, h.rw.append (.cons r .nil), Rel.rehold h.R (po_of trivial) h.hn h.gD⟩
end

/-! ### list comprehensions -/
def Res.nox {α : Type} : Res α → Res α
  | .exc _ _ => .no
  | r => r
def wipeS (σ : Sg) : List Nat → Sg
  | [] => σ
  | v :: vs => (wipeS σ vs).set v none
def lcF (src : Src) (t : Tg) (c : TM) (e : EM) (σ0 : Sg) : Nat → Nat → List Cell → Res (List W)
  | 0, _, _ => .no
  | n + 1, i, st => match src.get st i with
    | none => .no
    | some none => .ok [] st
    | some (some w) => match t.put w σ0 with
      | none => .no
      | some σ1 => (c σ1 st).nox.bind fun k st1 => if k = true then (e σ1 st1).nox.bind fun w st2 => (lcF src t c e σ0 n (i + 1) st2).bind fun ws st3 => .ok (w :: ws) st3 else lcF src t c e σ0 n (i + 1) st1
def mYes : TM := fun _ st => .ok true st
/-- what becomes of the new list: data, or a cell -/
def finP (ws : List W) (st : List Cell) : Res W := match pures ws with
  | some l => .ok (.p (.lst l)) st
  | none => .no
def finC (ws : List W) (st : List Cell) : Res W := .ok (.r st.length) (st ++ [.lst ws])
def mLc (m : IM) (t : Tg) (vs : List Nat) (c : TM) (e : EM) (fin : List W → List Cell → Res W) : EM := fun σ st => (m σ st).bind fun src st1 =>
  if src.n ≤ LIM then (lcF src t c e (wipeS σ vs) (src.n + 1) 0 st1).bind fin else .no
theorem RS.wipe (S : RS K cl ρ G σ τ) : ∀ vs : List Nat, RS K cl ρ G (wipeS σ vs) (L2.wipe τ vs)
  | [] => S
  | v :: vs => by
    have ih := RS.wipe S vs
    unfold wipeS L2.wipe
    refine ⟨by rw [List.length_set, List.length_set]; exact ih.1, fun j w e => ?_⟩
    by_cases hj : v = j
    · subst hj
      by_cases hl : v < (wipeS σ vs).length
      · rw [List.getElem?_set_self hl] at e; cases e
      · rw [List.getElem?_eq_none (by rw [List.length_set]; omega)] at e; cases e
    · rw [List.getElem?_set_ne hj] at e ⊢
      exact ih.2 j w e
def TTs' (X : Cx) (ifs : List Expr) : TT := fun σ H Q => ∀ (pins : List (Addr × Obj)) (s : Shared), Inv X pins σ H s →
  wpAny (model X.prog X.w) X.A (forIn ifs true fun c r => if r = true then do let ok ← isTrue c X.env (eval c X.env); pure (ForInStep.yield ok) else pure (ForInStep.yield r)) (TP X pins σ Q) X.xe s
theorem TTs'.pts {ifs : List Expr} : PTs X ifs (TTs' X ifs) := ⟨fun pins s σ H Q I h => h pins s I⟩
theorem TTs'.of {ifs : List Expr} {t : TT} {Q : Bool → Hp → Prop} (h : PTs X ifs t) (q : t τ H Q) : TTs' X ifs τ H Q := fun pins s I => h.run pins s τ H Q I q
structure STs (K : PySem.W.Frag) (cl : Cls) (X : Cx) (Wx : WX) (m : TM) (e : List Expr) : Prop where
  run : ∀ E0 ρ G σ st τ H Q, (bs K cl E0).Rel ρ G st H → RS K cl ρ G σ τ → Aft (bs K cl E0) eqB ρ G (m σ st) Q (fun c d H' => Wx c d τ H') → TTs' X e τ H Q
theorem sts_nil : STs K cl X Wx mYes [] := ⟨fun E0 ρ G σ st τ H Q R S h => TTs'.of pts_nil (h.here (b := true) R rfl)⟩
theorem sts_one {m : TM} {e : Expr} (h : ST K cl X Wx m e) : STs K cl X Wx m [e] := ⟨fun E0 ρ G σ st τ H Q R S q => TTs'.of (pts_one TT'.pt) (h.run E0 ρ G σ st τ H Q R S q)⟩
/-- in a block no exception is told -/
abbrev WF : WX := fun _ _ _ _ => False
theorem Aft.seqH {E1 : En} {α β γ δ : Type} {U : List Addr → Hp → α → β → Prop} {U2 : List Addr → Hp → γ → δ → Prop} {Z Z' : ZX} {R : Res α} {k : α → List Cell → Res γ} {Q : δ → Hp → Prop} {Q' : β → Hp → Prop} (h : Aft (bs K cl E0) U2 ρ G (R.nox.bind k) Q Z)
    (g : ∀ a st ρ' G' H' b, R = .ok a st → ρ <+: ρ' → Sub G G' → (bs K cl E1).Rel ρ' G' st H' → U ρ' G' a b → Aft (bs K cl E0) U2 ρ' G' (k a st) Q Z → Q' b H') : Aft (bs K cl E1) U ρ G R Q' Z' := by
  cases R with
  | ok a st => exact fun ρ2 G2 H2 b p s r u => g a st ρ2 G2 H2 b rfl p s r u (Aft.mono p s h)
  | exc x st => exact h.elim
  | no => exact h.elim
theorem Res.bind_bind {α β γ : Type} (r : Res α) (f : α → List Cell → Res β) (g : β → List Cell → Res γ) : (r.bind f).bind g = r.bind fun a st => (f a st).bind g := by cases r <;> rfl
theorem Res.bind_ok {α β : Type} (a : α) (st : List Cell) (f : α → List Cell → Res β) : (Res.ok a st).bind f = f a st := rfl
/-- the rest of a loop with so much in the list -/
def RestOk (K : PySem.W.Frag) (cl : Cls) (E0 : En) (ρ : List Addr) (G : Hp) (Q : VK) (Z : ZX) (r : Res (List W)) (k : List W → List Cell → Res W) : Prop := Aft (bs K cl E0) (bs K cl E0).RW ρ G (r.bind k) Q Z
/-- one turn behind the store, for any continuation -/
theorem lc_turn {Dd : Addr} {acc : List W} {Gh : Hp} {vl : List V} {c : TM} {e : EM} {σ1 : Sg} {k : List W → List Cell → Res W} {Q : VK} {Z : ZX} {rest : List Cell → Res (List W)} {ifs : List Expr} {elt : Expr} {Nx : Hp → Prop} {J : Type} {Y1 : J → Cx}
    (hd : Hd K cl E0 Dd ρ G st H acc Gh vl) (S : RS K cl ρ G σ1 τ) (hc : ∀ j, STs K cl (Y1 j) WF c ifs) (he : ∀ j, SE K cl (Y1 j) WF e elt) (hacc : acc.length < sizeLine)
    (q : Aft (bs K cl E0) (bs K cl E0).RW ρ G (((c σ1 st).nox.bind fun b st1 => if b = true then (e σ1 st1).nox.bind fun w st2 => (rest st2).bind fun ws st3 => .ok (w :: ws) st3 else rest st1).bind k) Q Z)
    (nx1 : ∀ ρ' G' st' H' Gh' vl' w, ρ <+: ρ' → Sub G G' → Hd K cl E0 Dd ρ' G' st' H' (acc ++ [w]) Gh' vl' → Aft (bs K cl E0) (bs K cl E0).RW ρ' G' ((rest st').bind fun ws st3 => k (w :: ws) st3) Q Z → Nx H')
    (nx0 : ∀ ρ' G' st' H' Gh' vl', ρ <+: ρ' → Sub G G' → Hd K cl E0 Dd ρ' G' st' H' acc Gh' vl' → Aft (bs K cl E0) (bs K cl E0).RW ρ' G' ((rest st').bind k) Q Z → Nx H') :
    (fun σ H Q => ∀ j, TTs' (Y1 j) ifs σ H Q : TT) τ H fun b H3 => if b = true then (fun σ H Q => ∀ j, T (Y1 j) elt σ H Q : TE) τ H3 fun y H4 => ∃ acc, H4 Dd = some (.lst acc) ∧ acc.length < sizeLine ∧ Nx (upd H4 Dd (.lst (acc ++ [y]))) else Nx H3 := by
  intro j
  rw [Res.bind_bind] at q
  refine (hc j).run _ ρ G σ1 st τ H _ hd.R S (Aft.seqH q fun b st1 ρ1 G1 H1 b' e1 p1 s1 R1 u1 q1 => ?_)
  obtain rfl : b = b' := u1
  have hd1 := hd.next p1 s1 R1
  cases b with
  | false => exact nx0 ρ1 G1 st1 H1 _ _ p1 s1 hd1 q1
  | true =>
    intro j
    simp only [if_true] at q1
    rw [Res.bind_bind] at q1
    refine (he j).run _ ρ1 G1 σ1 st1 τ H1 _ hd1.R (S.mono p1 s1) (Aft.seqH q1 fun w st2 ρ2 G2 H2 y e2 p2 s2 R2 u2 q2 => ?_)
    have hd2 := hd1.next p2 s2 R2
    refine ⟨vl, hd2.held.1, by rw [← hd2.rw.length]; exact hacc, ?_⟩
    refine nx1 ρ2 G2 st2 _ _ _ w (p1.trans p2) (s1.trans s2) (hd2.push u2) ?_
    rw [Res.bind_bind] at q2
    exact q2

/-- what becomes of the list, told of its end -/
def FinOk (K : PySem.W.Frag) (cl : Cls) (fin : List W → List Cell → Res W) : Prop :=
  ∀ E0 Dd ρ G st H acc Gh vl Q Z, Hd K cl E0 Dd ρ G st H acc Gh vl → Aft (bs K cl E0) (bs K cl E0).RW ρ G (fin acc st) Q Z → Q (.ref Dd) H
theorem finP_ok : FinOk K cl finP := by
  intro E0 Dd ρ G st H acc Gh vl Q Z hd q
  unfold finP at q
  split at q
  · rename_i l e
    obtain ⟨h1, h2, h3⟩ := hd.held
    exact q ρ (upd G Dd (.lst vl)) H (.ref Dd) (List.prefix_refl _) (Sub.new h2) (Rel.adopt hd.back h1 h2 h3 hd.h0) (.lst upd_same ((hd.rw.pures e).mono (Sub.new h2)))
  · exact q.elim
theorem finC_ok : FinOk K cl finC := by
  intro E0 Dd ρ G st H acc Gh vl Q Z hd q
  obtain ⟨h1, h2, h3⟩ := hd.held
  exact q (ρ ++ [Dd]) G H (.ref Dd) (List.prefix_append _ _) (Sub.refl _) (Rel.adoptC hd.back (fun z => by cases z) h2 h3 hd.h0 ⟨vl, h1, hd.rw.mono (List.prefix_append _ _) (Sub.refl _)⟩) ⟨Dd, by rw [← hd.R.len]; simp, rfl⟩
theorem lim_sz {n : Nat} (h : n ≤ LIM) : n < sizeLine := by rw [sizeLine_eq]; unfold LIM at h; omega

/-- the contexts of a comprehension's blocks -/
abbrev BJ := Shared × Hp × Addr × List (Str × Addr) × List Addr
abbrev Xb (X : Cx) (scope : Scope) (j : BJ) : Cx := X.blk j.1 j.2.1 scope (compEnvC scope j.2.2.2.1 j.2.2.1 X.env) j.2.2.2.2
theorem GX.blk (g : GX K X) {scope : Scope} {j : BJ} : GX K (Xb X scope j) := ⟨g.hK, g.hc, g.hN, g.hu, g.hh⟩
theorem lc_sound {m : IM} {t : Tg} {vs : List Nat} {c : TM} {e : EM} {fin : List W → List Cell → Res W} {tg iter elt : Expr} {ifs : List Expr} {Y1 : BJ → Cx} {Q : VK} (hf : FinOk K cl fin)
    (hi : SI K cl X Wx tg m iter) (ht : ∀ j, SG K cl (Y1 j) t tg) (hv : ∀ i ∈ t.slots, i ∈ vs) (hc : ∀ j, STs K cl (Y1 j) WF c ifs) (he : ∀ j, SE K cl (Y1 j) WF e elt)
    (R : (bs K cl E0).Rel ρ G st H) (S : RS K cl ρ G σ τ) (h : Aft (bs K cl E0) (bs K cl E0).RW ρ G (mLc m t vs c e fin σ st) Q (fun c d H' => Wx c d τ H')) :
    tLc (TIc X tg iter) (fun v σ H Q => ∀ j, TGc (Y1 j) tg v σ H Q) (fun σ H Q => ∀ j, TTs' (Y1 j) ifs σ H Q) (fun σ H Q => ∀ j, T (Y1 j) elt σ H Q) vs τ H Q := by
  refine hi.run E0 ρ G σ st τ H _ R S (Aft.seq h fun src st1 ρ1 G1 H1 J e1 p1 s1 R1 wok h1 => ?_)
  intro Dd hD
  split at h1
  case isFalse => exact h1.elim
  rename_i hn
  refine ⟨fun i k H' => ∃ ρ' G' st' acc Gh vl, ρ1 <+: ρ' ∧ Sub G1 G' ∧ Hd K cl E0 Dd ρ' G' st' H' acc Gh vl ∧ acc.length ≤ i ∧ i + k ≤ src.n + 1 ∧
    Aft (bs K cl E0) (bs K cl E0).RW ρ' G' ((lcF src t c e (wipeS σ vs) k i st').bind fun ws st3 => fin (acc ++ ws) st3) Q (fun c d H' => Wx c d τ H'), ⟨src.n + 1, ρ1, G1, st1, [], G1, [], List.prefix_refl _, Sub.refl _, Hd.start R1 hD, Nat.le_refl _, by omega, h1⟩, ?_⟩
  rintro i k H2 ⟨ρ2, G2, st2, acc, Gh, vl, p2, s2, hd, ha, hk, q2⟩
  cases k with
  | zero => exact q2.elim
  | succ k =>
    have w2 := wok _ ρ2 G2 st2 H2 i p2 s2 hd.R
    unfold lcF at q2
    cases eg : src.get st2 i with
    | none => rw [eg] at q2; exact q2.elim
    | some ow =>
      rw [eg] at q2 w2
      cases ow with
      | none =>
        refine .inl ⟨w2, ?_⟩
        have q2 : Aft (bs K cl E0) (bs K cl E0).RW ρ2 G2 (fin (acc ++ []) st2) Q (fun c d H' => Wx c d τ H') := q2
        rw [List.append_nil] at q2
        exact hf _ _ _ _ _ _ _ _ _ _ _ hd q2
      | some w =>
        dsimp only at q2 w2
        refine .inr ⟨w2.1, fun H' => ∃ ρ' G' st' acc Gh vl, ρ1 <+: ρ' ∧ Sub G1 G' ∧ Hd K cl E0 Dd ρ' G' st' H' acc Gh vl ∧ acc.length ≤ i + 1 ∧ i + 1 + k ≤ src.n + 1 ∧
          Aft (bs K cl E0) (bs K cl E0).RW ρ' G' ((lcF src t c e (wipeS σ vs) k (i + 1) st').bind fun ws st3 => fin (acc ++ ws) st3) Q (fun c d H' => Wx c d τ H'), fun H' z => ⟨k, Nat.lt_succ_self k, z⟩, fun x H3 y => ?_⟩
        obtain ⟨G3, s3, R3, r3⟩ := w2.2 x H3 y
        have hd3 := hd.next (List.prefix_refl _) s3 R3
        cases ep : t.put w (wipeS σ vs) with
        | none => rw [ep] at q2; exact q2.elim
        | some σ3 =>
          rw [ep] at q2
          dsimp only at q2
          intro j
          refine (ht j).run ρ2 G3 H3 w x (wipeS σ vs) σ3 _ _ R3.sub ((S.mono (p1.trans p2) (s1.trans (s2.trans s3))).wipe vs) r3 ep fun τ3 S3 w3 => ⟨(w3 vs hv).trans wipe_wipe, ?_⟩
          refine lc_turn (rest := fun st1 => lcF src t c e (wipeS σ vs) k (i + 1) st1) (Q := Q) hd3 S3 hc he (lim_sz (by omega)) (Aft.mono (List.prefix_refl _) s3 q2) (fun ρ4 G4 st4 H4 Gh4 vl4 w4 p4 s4 hd4 q4 => ?_) (fun ρ4 G4 st4 H4 Gh4 vl4 p4 s4 hd4 q4 => ?_)
          · refine ⟨ρ4, G4, st4, acc ++ [w4], Gh4, vl4, p2.trans p4, s2.trans (s3.trans s4), hd4, by rw [List.length_append]; simp; exact ha, by omega, ?_⟩
            simp only [List.append_assoc, List.singleton_append]
            exact q4
          · exact ⟨ρ4, G4, st4, acc, Gh4, vl4, p2.trans p4, s2.trans (s3.trans s4), hd4, by omega, by omega, q4⟩
theorem se_lc {m : IM} {t : Tg} {vs : List Nat} {c : TM} {e : EM} {fin : List W → List Cell → Res W} {tg iter elt : Expr} {ifs : List Expr} {scope : Scope} {own : List (Str × Nat)} {pos : Pos} (g : GX K X) (hf : FinOk K cl fin)
    (ok : blkC X.N X.env.scope scope own = true) (hvs : own.map (·.2) = vs) (hi : SI K cl X Wx tg m iter) (hv : t.slots.all (fun i => decide (i ∈ vs)) = true) (ht : ∀ j, SG K cl (Xb X scope j) t tg) (hc : ∀ j, STs K cl (Xb X scope j) WF c ifs) (he : ∀ j, SE K cl (Xb X scope j) WF e elt)
    (hs : ∀ x, foldedSetIterable iter X.env x = pure x := by intro _; rfl) : SE K cl X Wx (mLc m t vs c e fin) (.ListComp elt [⟨tg, iter, ifs, 0⟩] scope pos) := by
  subst hvs
  refine ⟨fun E0 ρ G σ st τ H Q R S h => T.of (pe_lc (g := fun v σ H Q => ∀ j, TGc (Xb X scope j) tg v σ H Q) (tt := fun σ H Q => ∀ j, TTs' (Xb X scope j) ifs σ H Q) (te := fun σ H Q => ∀ j, T (Xb X scope j) elt σ H Q) g.hc g.hN TIc.pi (blkOk_by ok)
    (fun s H C cl fp => ⟨fun pins s' σ H' v u Q I r h => h (s, H, C, cl, fp) pins s' u I r⟩) (fun s H C cl fp => ⟨fun pins s' σ H' Q I h => h (s, H, C, cl, fp) pins s' I⟩) (fun s H C cl fp => ⟨fun pins s' σ H' Q I h => h (s, H, C, cl, fp) pins s' I⟩) hs) ?_⟩
  exact lc_sound hf hi ht (fun i hm => by simpa using List.all_eq_true.mp hv i hm) hc he R S h
theorem ss_setLc {i : Nat} {y : Str} {py spos : Pos} {m : IM} {t : Tg} {vs : List Nat} {c : TM} {e : EM} {fin : List W → List Cell → Res W} {tg iter elt : Expr} {ifs : List Expr} {scope : Scope} {own : List (Str × Nat)} {pos : Pos} (g : GX K X) (hf : FinOk K cl fin)
    (hy : X.N[i]? = some y) (hyl : X.env.scope.names.lookup y = some .local) (hsw : swapsWith (.ListComp elt [⟨tg, iter, ifs, 0⟩] scope pos) (some (.Name y py)) spos.line X.env = pure true)
    (ok : blkC X.N X.env.scope scope own = true) (hvs : own.map (·.2) = vs) (hi : SI K cl X Wx tg m iter) (hv : t.slots.all (fun i => decide (i ∈ vs)) = true) (ht : ∀ j, SG K cl (Xb X scope j) t tg) (hc : ∀ j, STs K cl (Xb X scope j) WF c ifs) (he : ∀ j, SE K cl (Xb X scope j) WF e elt)
    (hs : ∀ x, foldedSetIterable iter X.env x = pure x := by intro _; rfl) : SS K cl X Wx (sSet i (mLc m t vs c e fin)) (.Assign [.Name y py] (.ListComp elt [⟨tg, iter, ifs, 0⟩] scope pos) spos) := by
  subst hvs
  refine ⟨fun E0 ρ G σ st τ H D R S q => TS'.of (ps_setLc (g := fun v σ H Q => ∀ j, TGc (Xb X scope j) tg v σ H Q) (tt := fun σ H Q => ∀ j, TTs' (Xb X scope j) ifs σ H Q) (te := fun σ H Q => ∀ j, T (Xb X scope j) elt σ H Q) g.hc g.hN hy hyl hsw TIc.pi (blkOk_by ok)
    (fun s H C cl fp => ⟨fun pins s' σ H' v u Q I r h => h (s, H, C, cl, fp) pins s' u I r⟩) (fun s H C cl fp => ⟨fun pins s' σ H' Q I h => h (s, H, C, cl, fp) pins s' I⟩) (fun s H C cl fp => ⟨fun pins s' σ H' Q I h => h (s, H, C, cl, fp) pins s' I⟩) hs) ?_⟩
  exact lc_sound hf hi ht (fun i hm => by simpa using List.all_eq_true.mp hv i hm) hc he R S (AftS.seq S q fun w st1 ρ1 G1 H1 v e1 p1 s1 R1 u1 h1 => AftS.nx h1 R1 ((RS.mono p1 s1 S).set u1 i))

/-! ### two clauses -/
def lc2F (src : Src) (t : Tg) (c : TM) (m1 : IM) (t1 : Tg) (vs1 : List Nat) (c1 : TM) (e : EM) (σ0 : Sg) : Nat → Nat → List Cell → Res (List W)
  | 0, _, _ => .no
  | n + 1, i, st => match src.get st i with
    | none => .no
    | some none => .ok [] st
    | some (some w) => match t.put w σ0 with
      | none => .no
      | some σ1 => (c σ1 st).nox.bind fun k st1 => if k = true then (m1 σ1 st1).nox.bind fun src1 st2 => if src1.n < 1000 then (lcF src1 t1 c1 e (wipeS σ1 vs1) (src1.n + 1) 0 st2).bind fun ws st3 => (lc2F src t c m1 t1 vs1 c1 e σ0 n (i + 1) st3).bind fun ws' st4 => .ok (ws ++ ws') st4 else .no
        else lc2F src t c m1 t1 vs1 c1 e σ0 n (i + 1) st1
def mLc2 (m : IM) (t : Tg) (vs : List Nat) (c : TM) (m1 : IM) (t1 : Tg) (vs1 : List Nat) (c1 : TM) (e : EM) (fin : List W → List Cell → Res W) : EM := fun σ st => (m σ st).bind fun src st1 =>
  if src.n < 1000 then (lc2F src t c m1 t1 vs1 c1 e (wipeS σ vs) (src.n + 1) 0 st1).bind fin else .no
theorem lc2_sound {m m1 : IM} {t t1 : Tg} {vs vs1 : List Nat} {c c1 : TM} {e : EM} {fin : List W → List Cell → Res W} {tg iter tg1 iter1 elt : Expr} {ifs ifs1 : List Expr} {Y1 : BJ → Cx} {Q : VK} (hf : FinOk K cl fin)
    (hi : SI K cl X Wx tg m iter) (ht : ∀ j, SG K cl (Y1 j) t tg) (hv : ∀ i ∈ t.slots, i ∈ vs) (hc : ∀ j, STs K cl (Y1 j) WF c ifs)
    (hi1 : ∀ j, SI K cl (Y1 j) WF tg1 m1 iter1) (ht1 : ∀ j, SG K cl (Y1 j) t1 tg1) (hv1 : ∀ i ∈ t1.slots, i ∈ vs1) (hc1 : ∀ j, STs K cl (Y1 j) WF c1 ifs1) (he : ∀ j, SE K cl (Y1 j) WF e elt)
    (R : (bs K cl E0).Rel ρ G st H) (S : RS K cl ρ G σ τ) (h : Aft (bs K cl E0) (bs K cl E0).RW ρ G (mLc2 m t vs c m1 t1 vs1 c1 e fin σ st) Q (fun c d H' => Wx c d τ H')) :
    tLc2 (TIc X tg iter) (fun v σ H Q => ∀ j, TGc (Y1 j) tg v σ H Q) (fun σ H Q => ∀ j, TTs' (Y1 j) ifs σ H Q) (fun σ H R => ∀ j, TIc (Y1 j) tg1 iter1 σ H R) (fun v σ H Q => ∀ j, TGc (Y1 j) tg1 v σ H Q) (fun σ H Q => ∀ j, TTs' (Y1 j) ifs1 σ H Q) (fun σ H Q => ∀ j, T (Y1 j) elt σ H Q) vs vs1 τ H Q := by
  refine hi.run E0 ρ G σ st τ H _ R S (Aft.seq h fun src st1 ρ1 G1 H1 J e1 p1 s1 R1 wok h1 => ?_)
  intro Dd hD
  split at h1
  case isFalse => exact h1.elim
  rename_i hn
  refine ⟨fun i k H' => ∃ ρ' G' st' acc Gh vl, ρ1 <+: ρ' ∧ Sub G1 G' ∧ Hd K cl E0 Dd ρ' G' st' H' acc Gh vl ∧ acc.length ≤ i * 1000 ∧ i + k ≤ src.n + 1 ∧
    Aft (bs K cl E0) (bs K cl E0).RW ρ' G' ((lc2F src t c m1 t1 vs1 c1 e (wipeS σ vs) k i st').bind fun ws st3 => fin (acc ++ ws) st3) Q (fun c d H' => Wx c d τ H'), ⟨src.n + 1, ρ1, G1, st1, [], G1, [], List.prefix_refl _, Sub.refl _, Hd.start R1 hD, Nat.zero_le _, by omega, h1⟩, ?_⟩
  rintro i k H2 ⟨ρ2, G2, st2, acc, Gh, vl, p2, s2, hd, ha, hk, q2⟩
  cases k with
  | zero => exact q2.elim
  | succ k =>
    have w2 := wok _ ρ2 G2 st2 H2 i p2 s2 hd.R
    unfold lc2F at q2
    cases eg : src.get st2 i with
    | none => rw [eg] at q2; exact q2.elim
    | some ow =>
      rw [eg] at q2 w2
      cases ow with
      | none =>
        refine .inl ⟨w2, ?_⟩
        have q2 : Aft (bs K cl E0) (bs K cl E0).RW ρ2 G2 (fin (acc ++ []) st2) Q (fun c d H' => Wx c d τ H') := q2
        rw [List.append_nil] at q2
        exact hf _ _ _ _ _ _ _ _ _ _ _ hd q2
      | some w =>
        dsimp only at q2 w2
        refine .inr ⟨w2.1, fun H' => ∃ ρ' G' st' acc Gh vl, ρ1 <+: ρ' ∧ Sub G1 G' ∧ Hd K cl E0 Dd ρ' G' st' H' acc Gh vl ∧ acc.length ≤ (i + 1) * 1000 ∧ i + 1 + k ≤ src.n + 1 ∧
          Aft (bs K cl E0) (bs K cl E0).RW ρ' G' ((lc2F src t c m1 t1 vs1 c1 e (wipeS σ vs) k (i + 1) st').bind fun ws st3 => fin (acc ++ ws) st3) Q (fun c d H' => Wx c d τ H'), fun H' z => ⟨k, Nat.lt_succ_self k, z⟩, fun x H3 y => ?_⟩
        obtain ⟨G3, s3, R3, r3⟩ := w2.2 x H3 y
        have hd3 := hd.next (List.prefix_refl _) s3 R3
        cases ep : t.put w (wipeS σ vs) with
        | none => rw [ep] at q2; exact q2.elim
        | some σ3 =>
          rw [ep] at q2
          dsimp only at q2
          intro j
          refine (ht j).run ρ2 G3 H3 w x (wipeS σ vs) σ3 _ _ R3.sub ((S.mono (p1.trans p2) (s1.trans (s2.trans s3))).wipe vs) r3 ep fun τ3 S3 w3 => ⟨(w3 vs hv).trans wipe_wipe, ?_⟩
          replace q2 := Aft.mono (List.prefix_refl _) s3 q2
          intro j
          rw [Res.bind_bind] at q2
          refine (hc j).run _ ρ2 G3 σ3 st2 τ3 H3 _ hd3.R S3 (Aft.seqH q2 fun b st4 ρ4 G4 H4 b' e4 p4 s4 R4 u4 q4 => ?_)
          obtain rfl : b = b' := u4
          have hd4 := hd3.next p4 s4 R4
          cases b with
          | false => exact ⟨ρ4, G4, st4, acc, Gh, vl, p2.trans p4, s2.trans (s3.trans s4), hd4, by omega, by omega, q4⟩
          | true =>
            simp only [if_true] at q4 ⊢
            intro j
            rw [Res.bind_bind] at q4
            refine (hi1 j).run _ ρ4 G4 σ3 st4 τ3 H4 _ hd4.R (S3.mono p4 s4) (Aft.seqH q4 fun src1 st5 ρ5 G5 H5 J1 e5 p5 s5 R5 wok1 q5 => ?_)
            have hd5 := hd4.next p5 s5 R5
            split at q5
            case isFalse => exact q5.elim
            rename_i hn1
            rw [Res.bind_bind] at q5
            refine ⟨fun i1 k1 H' => ∃ ρ' G' st' acc' Gh vl, ρ5 <+: ρ' ∧ Sub G5 G' ∧ Hd K cl E0 Dd ρ' G' st' H' (acc ++ acc') Gh vl ∧ acc'.length ≤ i1 ∧ i1 + k1 ≤ src1.n + 1 ∧
              Aft (bs K cl E0) (bs K cl E0).RW ρ' G' ((lcF src1 t1 c1 e (wipeS σ3 vs1) k1 i1 st').bind fun ws st3 => (lc2F src t c m1 t1 vs1 c1 e (wipeS σ vs) k (i + 1) st3).bind fun ws' st4 => fin (acc ++ (acc' ++ ws) ++ ws') st4) Q (fun c d H' => Wx c d τ H'),
              ⟨src1.n + 1, ρ5, G5, st5, [], Gh, vl, List.prefix_refl _, Sub.refl _, by rw [List.append_nil]; exact hd5, Nat.le_refl _, by omega, by simpa only [Res.bind_bind, Res.bind_ok, List.nil_append, List.append_assoc] using q5⟩, ?_⟩
            rintro i1 k1 H6 ⟨ρ6, G6, st6, acc1, Gh6, vl6, p6, s6, hd6, ha1, hk1, q6⟩
            cases k1 with
            | zero => exact q6.elim
            | succ k1 =>
              have w6 := wok1 _ ρ6 G6 st6 H6 i1 p6 s6 hd6.R
              unfold lcF at q6
              cases eg1 : src1.get st6 i1 with
              | none => rw [eg1] at q6; exact q6.elim
              | some ow1 =>
                rw [eg1] at q6 w6
                cases ow1 with
                | none =>
                  refine .inl ⟨w6, ρ6, G6, st6, acc ++ acc1, Gh6, vl6, p2.trans (p4.trans (p5.trans p6)), s2.trans (s3.trans (s4.trans (s5.trans s6))), hd6, by rw [List.length_append]; omega, by omega, ?_⟩
                  have q6 : Aft (bs K cl E0) (bs K cl E0).RW ρ6 G6 ((lc2F src t c m1 t1 vs1 c1 e (wipeS σ vs) k (i + 1) st6).bind fun ws' st4 => fin (acc ++ (acc1 ++ []) ++ ws') st4) Q (fun c d H' => Wx c d τ H') := q6
                  rw [List.append_nil] at q6
                  exact q6
                | some w1 =>
                  dsimp only at q6 w6
                  refine .inr ⟨w6.1, fun H' => ∃ ρ' G' st' acc' Gh vl, ρ5 <+: ρ' ∧ Sub G5 G' ∧ Hd K cl E0 Dd ρ' G' st' H' (acc ++ acc') Gh vl ∧ acc'.length ≤ i1 + 1 ∧ i1 + 1 + k1 ≤ src1.n + 1 ∧
                    Aft (bs K cl E0) (bs K cl E0).RW ρ' G' ((lcF src1 t1 c1 e (wipeS σ3 vs1) k1 (i1 + 1) st').bind fun ws st3 => (lc2F src t c m1 t1 vs1 c1 e (wipeS σ vs) k (i + 1) st3).bind fun ws' st4 => fin (acc ++ (acc' ++ ws) ++ ws') st4) Q (fun c d H' => Wx c d τ H'), fun H' z => ⟨k1, Nat.lt_succ_self k1, z⟩, fun x1 H7 y1 => ?_⟩
                  obtain ⟨G7, s7, R7, r7⟩ := w6.2 x1 H7 y1
                  have hd7 := hd6.next (List.prefix_refl _) s7 R7
                  cases ep1 : t1.put w1 (wipeS σ3 vs1) with
                  | none => rw [ep1] at q6; exact q6.elim
                  | some σ7 =>
                    rw [ep1] at q6
                    dsimp only at q6
                    intro j
                    refine (ht1 j).run ρ6 G7 H7 w1 x1 (wipeS σ3 vs1) σ7 _ _ R7.sub ((S3.mono (p4.trans (p5.trans p6)) (s4.trans (s5.trans (s6.trans s7)))).wipe vs1) r7 ep1 fun τ7 S7 w7 => ⟨(w7 vs1 hv1).trans wipe_wipe, ?_⟩
                    have hl := hd7.rw.length
                    refine lc_turn (rest := fun st1 => lcF src1 t1 c1 e (wipeS σ3 vs1) k1 (i1 + 1) st1) (Q := Q) hd7 S7 hc1 he (by rw [List.length_append]; exact lim_sz (by unfold LIM; omega)) (Aft.mono (List.prefix_refl _) s7 q6) (fun ρ8 G8 st8 H8 Gh8 vl8 w8 p8 s8 hd8 q8 => ?_) (fun ρ8 G8 st8 H8 Gh8 vl8 p8 s8 hd8 q8 => ?_)
                    · refine ⟨ρ8, G8, st8, acc1 ++ [w8], Gh8, vl8, p6.trans p8, s6.trans (s7.trans s8), by rw [← List.append_assoc]; exact hd8, by rw [List.length_append]; simp; exact ha1, by omega, ?_⟩
                      simpa only [Res.bind_bind, Res.bind_ok, List.append_assoc, List.singleton_append, List.cons_append, List.nil_append] using q8
                    · exact ⟨ρ8, G8, st8, acc1, Gh8, vl8, p6.trans p8, s6.trans (s7.trans s8), hd8, by omega, by omega, q8⟩
theorem se_lc2 {m m1 : IM} {t t1 : Tg} {vs vs1 : List Nat} {c c1 : TM} {e : EM} {fin : List W → List Cell → Res W} {tg iter tg1 iter1 elt : Expr} {ifs ifs1 : List Expr} {scope : Scope} {own : List (Str × Nat)} {pos : Pos} (g : GX K X) (hf : FinOk K cl fin)
    (ok : blkC X.N X.env.scope scope own = true) (hvs : own.map (·.2) = vs) (hi : SI K cl X Wx tg m iter) (hv : t.slots.all (fun i => decide (i ∈ vs)) = true) (hvv : vs1.all (fun i => decide (i ∈ vs)) = true) (hv1 : t1.slots.all (fun i => decide (i ∈ vs1)) = true)
    (ht : ∀ j, SG K cl (Xb X scope j) t tg) (hc : ∀ j, STs K cl (Xb X scope j) WF c ifs)
    (hi1 : ∀ j, SI K cl (Xb X scope j) WF tg1 m1 iter1) (ht1 : ∀ j, SG K cl (Xb X scope j) t1 tg1) (hc1 : ∀ j, STs K cl (Xb X scope j) WF c1 ifs1) (he : ∀ j, SE K cl (Xb X scope j) WF e elt)
    (hs : ∀ x, foldedSetIterable iter X.env x = pure x := by intro _; rfl) (hs1 : ∀ env x, foldedSetIterable iter1 env x = pure x := by intro _ _; rfl) : SE K cl X Wx (mLc2 m t vs c m1 t1 vs1 c1 e fin) (.ListComp elt [⟨tg, iter, ifs, 0⟩, ⟨tg1, iter1, ifs1, 0⟩] scope pos) := by
  subst hvs
  refine ⟨fun E0 ρ G σ st τ H Q R S h => T.of (pe_lc2 (vs1 := vs1) (wi1 := fun σ H R => ∀ j, TIc (Xb X scope j) tg1 iter1 σ H R) (g := fun v σ H Q => ∀ j, TGc (Xb X scope j) tg v σ H Q) (tt := fun σ H Q => ∀ j, TTs' (Xb X scope j) ifs σ H Q) (g1 := fun v σ H Q => ∀ j, TGc (Xb X scope j) tg1 v σ H Q) (tt1 := fun σ H Q => ∀ j, TTs' (Xb X scope j) ifs1 σ H Q) (te := fun σ H Q => ∀ j, T (Xb X scope j) elt σ H Q) g.hc g.hN TIc.pi (blkOk_by ok) (fun i hm => by simpa using List.all_eq_true.mp hvv i hm)
    (fun s H C cl fp => ⟨fun pins s' σ H' v u Q I r h => h (s, H, C, cl, fp) pins s' u I r⟩) (fun s H C cl fp => ⟨fun pins s' σ H' Q I h => h (s, H, C, cl, fp) pins s' I⟩)
    (fun s H C cl fp => ⟨fun pins s' σ H' Q I h => h (s, H, C, cl, fp) pins s' I⟩)
    (fun s H C cl fp => ⟨fun pins s' σ H' v u Q I r h => h (s, H, C, cl, fp) pins s' u I r⟩) (fun s H C cl fp => ⟨fun pins s' σ H' Q I h => h (s, H, C, cl, fp) pins s' I⟩)
    (fun s H C cl fp => ⟨fun pins s' σ H' Q I h => h (s, H, C, cl, fp) pins s' I⟩) hs hs1) ?_⟩
  exact lc2_sound hf hi ht (fun i hm => by simpa using List.all_eq_true.mp hv i hm) hc hi1 ht1 (fun i hm => by simpa using List.all_eq_true.mp hv1 i hm) hc1 he R S h
end
end Y

/-! Y6: what is walked, by forms; operations. -/
namespace Y
open PySem PySem.Spec PyProof.Rows L2
section
variable {K : PySem.W.Frag} {cl : Cls} {X : Cx} {Wx : WX} {E0 : En} {ρ ρ' : List Addr} {G G' : Hp} {σ : Sg} {τ : L2.St} {st : List Cell} {H : Hp} {D : Ends}

/-! ### what is walked -/
def srcL (l : List W) : Src := ⟨fun _ i => some l[i]?, l.length⟩
def chars (s : Str) : List W := s.cps.toList.map fun c => .p (.str ⟨#[c]⟩)
def srcC (j n : Nat) : Src := ⟨fun st i => match st[j]? with
  | some (.lst l) => some l[i]?
  | _ => none, n⟩
/-- the thing itself: a list, a tuple, a text, a cell -/
def vSrc (st : List Cell) : W → Option Src
  | .p (.lst l) => some (srcL (l.map .p))
  | .p (.tup l) => some (srcL (l.map .p))
  | .p (.str s) => some (srcL (chars s))
  | .r j => match st[j]? with
    | some (.lst l) => some (srcC j l.length)
    | _ => none
  | _ => none
def mSrc (m : EM) : IM := fun σ st => (m σ st).bind fun w st1 => match vSrc st1 w with
  | some s => .ok s st1
  | none => .no
theorem map_get {l : List P} {i : Nat} : (l.map W.p)[i]? = l[i]?.map W.p := List.getElem?_map ..
theorem wok_lst {a : Addr} {l : List P} (r : RP K cl G (.lst l) (.ref a)) : WOk K cl ρ G (Itl K a) (srcL (l.map .p)) := by
  intro E0 ρ' G' st H i p s R
  cases r with
  | lst h q =>
    rename_i vs
    have hq : SqL K H a vs := .inl (.inl (R.sub _ _ (s _ _ h)))
    have hl := q.length
    show match some (l.map W.p)[i]? with | none => True | some none => _ | some (some w) => _
    rw [map_get]
    cases e : l[i]? with
    | none => exact ⟨vs, hq, by rw [← hl]; exact List.getElem?_eq_none_iff.mp e⟩
    | some x =>
      obtain ⟨v, ev, rv⟩ := q.get e
      refine ⟨⟨vs, v, hq, ev⟩, fun y H' yl => ?_⟩
      obtain ⟨rfl, yl⟩ := yl
      have : y = v := Option.some.inj ((yl vs hq).symm.trans ev)
      subst this
      exact ⟨G', Sub.refl _, R, rv.mono s⟩
theorem wok_tup {a : Addr} {l : List P} (r : RP K cl G (.tup l) (.ref a)) : WOk K cl ρ G (Itt K a) (srcL (l.map .p)) := by
  intro E0 ρ' G' st H i p s R
  cases r with
  | tup h q =>
    rename_i vs
    have hq : SqT K H a vs := R.sub.sqT (s.sqT h)
    have hl := q.length
    show match some (l.map W.p)[i]? with | none => True | some none => _ | some (some w) => _
    rw [map_get]
    cases e : l[i]? with
    | none => exact ⟨vs, hq, by rw [← hl]; exact List.getElem?_eq_none_iff.mp e⟩
    | some x =>
      obtain ⟨v, ev, rv⟩ := q.get e
      refine ⟨⟨vs, v, hq, ev⟩, fun y H' yl => ?_⟩
      obtain ⟨rfl, yl⟩ := yl
      have : y = v := Option.some.inj ((yl vs hq).symm.trans ev)
      subst this
      exact ⟨G', Sub.refl _, R, rv.mono s⟩
theorem chars_get {z : Str} {i : Nat} : (chars z)[i]? = z.cps[i]?.map fun c => W.p (.str ⟨#[c]⟩) := by
  unfold chars
  rw [List.getElem?_map, Array.getElem?_toList]
theorem wok_str {z : Str} : WOk K cl ρ G (Its z) (srcL (chars z)) := by
  intro E0 ρ' G' st H i p s R
  show match some (chars z)[i]? with | none => True | some none => _ | some (some w) => _
  rw [chars_get]
  cases e : z.cps[i]? with
  | none => exact Array.getElem?_eq_none_iff.mp e
  | some c =>
    refine ⟨(Array.getElem?_eq_some_iff.mp e).1, fun y H' yl => ?_⟩
    obtain ⟨rfl, c', e', rfl⟩ := yl
    rw [e] at e'; cases e'
    exact ⟨G', Sub.refl _, R, RP.str _⟩
theorem wok_cell {a : Addr} {j n : Nat} (h : ρ[j]? = some a) : WOk K cl ρ G (Itl K a) (srcC j n) := by
  intro E0 ρ' G' st H i p s R
  show match (match st[j]? with | some (.lst l) => some l[i]? | _ => none) with | none => True | some none => _ | some (some w) => _
  split
  · trivial
  · rename_i e
    split at e
    · rename_i l el
      obtain ⟨b, hb, ⟨vs, h1, h2⟩, _⟩ := R.at el
      have hb : ρ'[j]? = some b := hb
      obtain ⟨t, rfl⟩ := p
      rw [List.getElem?_append_left (List.getElem?_eq_some_iff.mp h).1, h] at hb
      cases hb
      exact ⟨vs, .inl (.inl h1), by rw [← h2.length]; exact List.getElem?_eq_none_iff.mp (Option.some.inj e)⟩
    · cases e
  · rename_i w e
    split at e
    · rename_i l el
      obtain ⟨b, hb, ⟨vs, h1, h2⟩, _⟩ := R.at el
      have hb : ρ'[j]? = some b := hb
      obtain ⟨t, rfl⟩ := p
      rw [List.getElem?_append_left (List.getElem?_eq_some_iff.mp h).1, h] at hb
      cases hb
      obtain ⟨v, ev, rv⟩ := h2.get (Option.some.inj e)
      refine ⟨⟨vs, v, .inl (.inl h1), ev⟩, fun y H' yl => ?_⟩
      obtain ⟨rfl, yl⟩ := yl
      have : y = v := Option.some.inj ((yl vs (.inl (.inl h1))).symm.trans ev)
      subst this
      exact ⟨G', Sub.refl _, R, rv⟩
    · cases e
/-- an iterator of a list, a tuple, a text -/
theorem it_list {pins : List (Addr × Obj)} {s : Shared} {tg : Expr} {a : Addr} {xs : List V} {R : It → Hp → Prop} (I : Inv X pins τ H s) (h : SqL X.K H a xs) (q : R (Itl X.K a) H) : wpAny (model X.prog X.w) X.A (pyIter (.ref a)) (PIE X pins τ tg R) X.xe s := by
  obtain ⟨its, rv, p, hz⟩ := I.list h
  exact wpAny_pyIter_list p.isList (pi_one (tk := s.toks) I _ (turn_list a _) ⟨_, Heap.get?_push_size _ rfl, rfl, rfl⟩ q)
theorem it_tup {pins : List (Addr × Obj)} {s : Shared} {tg : Expr} {a : Addr} {xs : List V} {R : It → Hp → Prop} (I : Inv X pins τ H s) (h : SqT X.K H a xs) (q : R (Itt X.K a) H) : wpAny (model X.prog X.w) X.A (pyIter (.ref a)) (PIE X pins τ tg R) X.xe s := by
  obtain ⟨its, rv, p, hz⟩ := I.tuple h
  exact wpAny_pyIter_tuple (show s.heap.IsTuple a its.toArray from p) (pi_one (tk := s.toks) I _ (turn_tuple a _) ⟨_, Heap.get?_push_size _ rfl, rfl, rfl⟩ q)
theorem it_str {pins : List (Addr × Obj)} {s : Shared} {tg : Expr} {x : Str} {t : Tok} {R : It → Hp → Prop} (I : Inv X pins τ H s) (q : R (Its x) H) : wpAny (model X.prog X.w) X.A (pyIter (.str x t)) (PIE X pins τ tg R) X.xe s := by
  cases ha : x.cps.all (· < 128)
  · exact wpAny_pyIter_wide ha (pi_one (tk := s.toks) I _ (turn_str _ x t "str_iterator" (.inr rfl)) ⟨_, Heap.get?_push_size _ rfl, rfl, rfl⟩ q)
  · exact wpAny_pyIter_ascii ha (pi_one (tk := s.toks) I _ (turn_str _ x t "str_ascii_iterator" (.inl rfl)) ⟨_, Heap.get?_push_size _ rfl, rfl, rfl⟩ q)
theorem si_of {m : EM} {tg e : Expr} (g : GX K X) (h : SE K cl X Wx m e) : SI K cl X Wx tg (mSrc m) e := by
  obtain ⟨hK, _⟩ := g
  subst hK
  refine ⟨fun E0 ρ G σ st τ H R Rl S q => ?_⟩
  have t := h.run E0 ρ G σ st τ H (fun x H1 => (∃ a xs, x = .ref a ∧ SqL X.K H1 a xs ∧ R (Itl X.K a) H1) ∨ (∃ a xs, x = .ref a ∧ SqT X.K H1 a xs ∧ R (Itt X.K a) H1) ∨ ∃ z, x = .str z ∧ R (Its z) H1) Rl S
    (Aft.seq q fun w st1 ρ1 G1 H1 v e1 p1 s1 R1 u1 h1 => ?_)
  · intro pins s I
    refine thn (t pins s I) fun v s1 ⟨x, H1, I1, r1, q1⟩ => ?_
    rcases q1 with ⟨a, xs, rfl, hs, q1⟩ | ⟨a, xs, rfl, hs, q1⟩ | ⟨z, rfl, q1⟩
    · cases r1; exact it_list I1 hs q1
    · cases r1; exact it_tup I1 hs q1
    · obtain ⟨t, rfl⟩ := r1; exact it_str I1 q1
  · cases w with
    | p x =>
      cases x with
      | lst l =>
        cases u1 with
        | lst hh qq => exact .inl ⟨_, _, rfl, .inl (.inl (R1.sub _ _ hh)), h1 ρ1 G1 H1 _ (List.prefix_refl _) (Sub.refl _) R1 (wok_lst (.lst hh qq))⟩
      | tup l =>
        cases u1 with
        | tup hh qq => exact .inr (.inl ⟨_, _, rfl, R1.sub.sqT hh, h1 ρ1 G1 H1 _ (List.prefix_refl _) (Sub.refl _) R1 (wok_tup (.tup hh qq))⟩)
      | str z =>
        cases u1
        exact .inr (.inr ⟨_, rfl, h1 ρ1 G1 H1 _ (List.prefix_refl _) (Sub.refl _) R1 wok_str⟩)
      | _ => exact h1.elim
    | r j =>
      obtain ⟨a, ha, rfl⟩ := u1
      simp only [vSrc] at h1
      split at h1
      · rename_i sr er
        split at er
        · rename_i l el
          cases er
          obtain ⟨b, hb, ⟨vs, h2, h3⟩, _⟩ := R1.at el
          cases Option.some.inj (ha.symm.trans hb)
          exact .inl ⟨a, vs, rfl, .inl (.inl h2), h1 ρ1 G1 H1 _ (List.prefix_refl _) (Sub.refl _) R1 (wok_cell ha)⟩
        · cases er
      · exact h1.elim

/-! range -/
def rngL (lo : Int) (n : Nat) : List W := (List.range n).map fun (i : Nat) => .p (.int (lo + (i : Nat)))
theorem wok_rng {lo : Int} {n : Nat} : WOk K cl ρ G (Itr lo n) (srcL (rngL lo n)) := by
  intro E0 ρ' G' st H i p s R
  show match some (rngL lo n)[i]? with | none => True | some none => _ | some (some w) => _
  unfold rngL
  rw [List.getElem?_map]
  by_cases h : i < n
  · rw [List.getElem?_range h]
    refine ⟨h, fun y H' yl => ?_⟩
    obtain ⟨rfl, rfl⟩ := yl
    exact ⟨G', Sub.refl _, R, RP.int _⟩
  · rw [List.getElem?_eq_none (by simpa using Nat.not_lt.mp h)]
    exact Nat.not_lt.mp h
def mRng1 (a : EM) : IM := fun σ st => (a σ st).bind fun w st1 => match w with
  | .p (.int j) => if j ≤ LIM ∧ -(LIM : Int) ≤ j then .ok (srcL (rngL 0 j.toNat)) st1 else .no
  | _ => .no
theorem T.pa1 {e : Expr} (hs : starEach [e] X.env = (false, eval e X.env) :: starEach [] X.env) : PA X [e] (tCons (T X e) tNil) := pa_cons T.pe pa_nil hs
theorem si_rng1 {a : EM} {e tg : Expr} {p pos : Pos} (hg : Gl X "range") (hm : X.mg "range" = none) (ha : SE K cl X Wx a e) (hs : starEach [e] X.env = (false, eval e X.env) :: starEach [] X.env := by rfl) : SI K cl X Wx tg (mRng1 a) (.Call (.Name "range" p) [e] [] pos) := by
  refine ⟨fun E0 ρ G σ st τ H R Rl S q => TIc.of (pi_range1 hg hm (T.pa1 hs) hs) ?_⟩
  refine ha.run E0 ρ G σ st τ H _ Rl S (Aft.seq q fun w st1 ρ1 G1 H1 v e1 p1 s1 R1 u1 h1 => ?_)
  have hlim : ((LIM : Nat) : Int) = 1000000 := rfl
  split at h1
  · rename_i j
    split at h1
    · rename_i hj
      cases u1
      exact ⟨j, rfl, by omega, by omega, h1 ρ1 G1 H1 _ (List.prefix_refl _) (Sub.refl _) R1 wok_rng⟩
    · exact h1.elim
  · exact h1.elim
def mRng2 (a b : EM) : IM := fun σ st => (a σ st).bind fun w st1 => (b σ st1).bind fun u st2 => match w, u with
  | .p (.int i), .p (.int j) => if (j ≤ LIM ∧ -(LIM : Int) ≤ j) ∧ i ≤ LIM ∧ -(LIM : Int) ≤ i then .ok (srcL (rngL i (j - i).toNat)) st2 else .no
  | _, _ => .no
theorem si_rng2 {a b : EM} {e e2 tg : Expr} {p pos : Pos} (hg : Gl X "range") (hm : X.mg "range" = none) (ha : SE K cl X Wx a e) (hb : SE K cl X Wx b e2) (hs : starEach [e, e2] X.env = (false, eval e X.env) :: starEach [e2] X.env := by rfl) (hs2 : starEach [e2] X.env = (false, eval e2 X.env) :: starEach [] X.env := by rfl) (h3 : starEach [] X.env = [] := by rfl) : SI K cl X Wx tg (mRng2 a b) (.Call (.Name "range" p) [e, e2] [] pos) := by
  refine ⟨fun E0 ρ G σ st τ H R Rl S q => TIc.of (pi_range2 hg hm (pa_cons T.pe (T.pa1 hs2) hs) (by rw [hs, hs2, h3]) (by rw [hs2, h3])) ?_⟩
  refine ha.run E0 ρ G σ st τ H _ Rl S (Aft.seq q fun w st1 ρ1 G1 H1 v e1 p1 s1 R1 u1 h1 => ?_)
  refine hb.run E0 ρ1 G1 σ st1 τ H1 _ R1 (S.mono p1 s1) (Aft.seq h1 fun u st2 ρ2 G2 H2 v2 e2 p2 s2 R2 u2 h2 => ?_)
  have hlim : ((LIM : Nat) : Int) = 1000000 := rfl
  split at h2
  · rename_i i j
    split at h2
    · rename_i hj
      cases u1; cases u2
      exact ⟨i, j, rfl, by omega, h2 ρ2 G2 H2 _ (List.prefix_refl _) (Sub.refl _) R2 wok_rng⟩
    · exact h2.elim
  · exact h2.elim

/-! enumerate of a list -/
def enmL : Nat → List P → List W
  | _, [] => []
  | i, x :: l => .p (.tup [.int (i : Nat), x]) :: enmL (i + 1) l
theorem enmL_get : ∀ {l : List P} {i k : Nat}, (enmL k l)[i]? = l[i]?.map fun x => W.p (.tup [.int ((k + i : Nat) : Int), x])
  | [], _, _ => rfl
  | x :: l, 0, k => rfl
  | x :: l, i + 1, k => by
    show (enmL (k + 1) l)[i]? = _
    rw [enmL_get]
    have : k + 1 + i = k + (i + 1) := by omega
    rw [this]; rfl
def srcE (j n : Nat) : Src := ⟨fun st i => match st[j]? with
  | some (.lst l) => match l[i]? with
    | none => some none
    | some (.p x) => some (some (.p (.tup [.int (i : Nat), x])))
    | some (.r _) => none
  | _ => none, n⟩
def vEnm (st : List Cell) : W → Option Src
  | .p (.lst l) => some (srcL (enmL 0 l))
  | .r j => match st[j]? with
    | some (.lst l) => some (srcE j l.length)
    | _ => none
  | _ => none
def mEnm (m : EM) : IM := fun σ st => (m σ st).bind fun w st1 => match vEnm st1 w with
  | some s => .ok s st1
  | none => .no
theorem wok_enm {a : Addr} {l : List P} (r : RP K cl G (.lst l) (.ref a)) : WOk K cl ρ G (Ite K a) (srcL (enmL 0 l)) := by
  intro E0 ρ' G' st H i p s R
  cases r with
  | lst h q =>
    rename_i vs
    have hq : SqL K H a vs := .inl (.inl (R.sub _ _ (s _ _ h)))
    have hl := q.length
    show match some (enmL 0 l)[i]? with | none => True | some none => _ | some (some w) => _
    rw [enmL_get]
    cases e : l[i]? with
    | none => exact ⟨vs, hq, by rw [← hl]; exact List.getElem?_eq_none_iff.mp e⟩
    | some x =>
      obtain ⟨v, ev, rv⟩ := q.get e
      refine ⟨⟨vs, v, hq, ev⟩, fun y H' yl => ?_⟩
      obtain ⟨T, v', rfl, hT, rfl, yl⟩ := yl
      have : v' = v := Option.some.inj ((yl vs hq).symm.trans ev)
      subst this
      have sn := Sub.new (o := .tup [.int (i : Nat), v']) (R.gnone hT)
      refine ⟨_, sn, R.froze hT, ?_⟩
      rw [Nat.zero_add]
      exact RP.tup (.inl (.inl upd_same)) (.cons (.int _) (.cons (rv.mono (s.trans sn)) .nil))
theorem wok_enmC {a : Addr} {j n : Nat} (h : ρ[j]? = some a) : WOk K cl ρ G (Ite K a) (srcE j n) := by
  intro E0 ρ' G' st H i p s R
  have at' : ∀ l, st[j]? = some (.lst l) → ∃ vs, H a = some (.lst vs) ∧ RWs K cl ρ' G' l vs := fun l el => by
    obtain ⟨b, hb, ⟨vs, h1, h2⟩, _⟩ := R.at el
    have hb : ρ'[j]? = some b := hb
    obtain ⟨t, rfl⟩ := p
    rw [List.getElem?_append_left (List.getElem?_eq_some_iff.mp h).1, h] at hb
    cases hb
    exact ⟨vs, h1, h2⟩
  unfold srcE
  dsimp only
  split
  · trivial
  · rename_i e
    split at e
    · rename_i l el
      obtain ⟨vs, h1, h2⟩ := at' l el
      split at e
      · rename_i e2
        exact ⟨vs, .inl (.inl h1), by rw [← h2.length]; exact List.getElem?_eq_none_iff.mp e2⟩
      · cases e
      · cases e
    · cases e
  · rename_i w e
    split at e
    · rename_i l el
      obtain ⟨vs, h1, h2⟩ := at' l el
      split at e
      · cases e
      · rename_i x e2
        cases e
        obtain ⟨v, ev, rv⟩ := h2.get e2
        refine ⟨⟨vs, v, .inl (.inl h1), ev⟩, fun y H' yl => ?_⟩
        obtain ⟨T, v', rfl, hT, rfl, yl⟩ := yl
        have : v' = v := Option.some.inj ((yl vs (.inl (.inl h1))).symm.trans ev)
        subst this
        have sn := Sub.new (o := .tup [.int (i : Nat), v']) (R.gnone hT)
        exact ⟨_, sn, R.froze hT, RP.tup (.inl (.inl upd_same)) (.cons (.int _) (.cons (RP.mono sn rv) .nil))⟩
      · cases e
    · cases e
theorem si_enm {a : EM} {e : Expr} {p pos tpos : Pos} {elts : List Expr} {kk : Nat} (g : GX K X) (hg : Gl X "enumerate") (hm : X.mg "enumerate" = none) (ha : SE K cl X Wx a e) (hs : starEach [e] X.env = (false, eval e X.env) :: starEach [] X.env := by rfl) (h3 : starEach [] X.env = [] := by rfl) :
    SI K cl X Wx (.Tuple elts kk tpos) (mEnm a) (.Call (.Name "enumerate" p) [e] [] pos) := by
  obtain ⟨hK, _⟩ := g
  subst hK
  refine ⟨fun E0 ρ G σ st τ H R Rl S q => TIc.of (pi_enum hg hm (T.pa1 hs) (by rw [hs, h3])) ?_⟩
  refine ha.run E0 ρ G σ st τ H _ Rl S (Aft.seq q fun w st1 ρ1 G1 H1 v e1 p1 s1 R1 u1 h1 => ?_)
  cases w with
  | p x =>
    cases x with
    | lst l =>
      cases u1 with
      | lst hh qq => exact ⟨_, _, rfl, .inl (.inl (R1.sub _ _ hh)), h1 ρ1 G1 H1 _ (List.prefix_refl _) (Sub.refl _) R1 (wok_enm (.lst hh qq))⟩
    | _ => exact h1.elim
  | r j =>
    obtain ⟨b, ha, rfl⟩ := u1
    simp only [vEnm] at h1
    split at h1
    · rename_i sr er
      split at er
      · rename_i l el
        cases er
        obtain ⟨b, hb, ⟨vs, h2, h3⟩, _⟩ := R1.at el
        cases Option.some.inj (ha.symm.trans hb)
        exact ⟨_, vs, rfl, .inl (.inl h2), h1 ρ1 G1 H1 _ (List.prefix_refl _) (Sub.refl _) R1 (wok_enmC ha)⟩
      · cases er
    · exact h1.elim

/-! zip of two tuples or of two lists, data -/
def zipL : List P → List P → List W
  | x :: l, y :: m => .p (.tup [x, y]) :: zipL l m
  | _, _ => []
theorem zipL_get : ∀ {l m : List P} {i : Nat}, (zipL l m)[i]? = match l[i]?, m[i]? with
    | some x, some y => some (.p (.tup [x, y]))
    | _, _ => none
  | [], m, i => by simp [zipL]
  | x :: l, [], i => by
    simp only [zipL, List.getElem?_nil]
    split
    · rename_i h; cases h
    · rfl
  | x :: l, y :: m, 0 => by simp [zipL]
  | x :: l, y :: m, i + 1 => by
    show (zipL l m)[i]? = _
    rw [zipL_get]
    simp
def vZip (st : List Cell) (x y : W) : Option Src := match x, y with
  | .p (.tup l), .p (.tup m) => some (srcL (zipL l m))
  | _, _ => match unL st x, unL st y with
    | some l, some m => some (srcL (zipL l m))
    | _, _ => none
where unL (st : List Cell) : W → Option (List P)
  | .p (.lst l) => some l
  | _ => none
def mZip (a b : EM) : IM := fun σ st => (a σ st).bind fun x st1 => (b σ st1).bind fun y st2 => match vZip st2 x y with
  | some s => .ok s st2
  | none => .no
theorem RPs.get2 {l m : List P} {vs us : List V} (q : RPs K cl G l vs) (q2 : RPs K cl G m us) (i : Nat) : match (match l[i]?, m[i]? with | some x, some y => some (x, y) | _, _ => none) with
    | none => vs.length ≤ i ∨ us.length ≤ i
    | some (x, y) => ∃ v u, vs[i]? = some v ∧ us[i]? = some u ∧ RP K cl G x v ∧ RP K cl G y u := by
  cases e1 : l[i]? with
  | none => exact .inl (by rw [← q.length]; exact List.getElem?_eq_none_iff.mp e1)
  | some x =>
    cases e2 : m[i]? with
    | none => exact .inr (by rw [← q2.length]; exact List.getElem?_eq_none_iff.mp e2)
    | some y =>
      obtain ⟨v, e3, r3⟩ := q.get e1
      obtain ⟨u, e4, r4⟩ := q2.get e2
      exact ⟨v, u, e3, e4, r3, r4⟩
theorem wok_zipT {a b : Addr} {l m : List P} (r : RP K cl G (.tup l) (.ref a)) (r2 : RP K cl G (.tup m) (.ref b)) : WOk K cl ρ G (RZ.ItzT K a b) (srcL (zipL l m)) := by
  intro E0 ρ' G' st H i p s R
  cases r with
  | tup h q =>
    cases r2 with
    | tup h2 q2 =>
      rename_i vs us
      have hq : SqT K H a vs := R.sub.sqT (s.sqT h)
      have hq2 : SqT K H b us := R.sub.sqT (s.sqT h2)
      show match some (zipL l m)[i]? with | none => True | some none => _ | some (some w) => _
      rw [zipL_get]
      have z := q.get2 q2 i
      cases e : l[i]? with
      | none => rw [e] at z; exact ⟨vs, us, hq, hq2, z⟩
      | some x =>
        cases e2 : m[i]? with
        | none => rw [e, e2] at z; exact ⟨vs, us, hq, hq2, z⟩
        | some y =>
          rw [e, e2] at z
          obtain ⟨v, u, ev, eu, rv, ru⟩ := z
          refine ⟨⟨vs, us, v, u, hq, hq2, ev, eu⟩, fun w H' yl => ?_⟩
          obtain ⟨T, v', u', rfl, hT, rfl, y1, y2⟩ := yl
          have : v' = v := Option.some.inj ((y1 vs hq).symm.trans ev)
          subst this
          have : u' = u := Option.some.inj ((y2 us hq2).symm.trans eu)
          subst this
          have sn := Sub.new (o := .tup [v', u']) (R.gnone hT)
          exact ⟨_, sn, R.froze hT, RP.tup (.inl (.inl upd_same)) (.cons (rv.mono (s.trans sn)) (.cons (ru.mono (s.trans sn)) .nil))⟩
theorem wok_zipL {a b : Addr} {l m : List P} (r : RP K cl G (.lst l) (.ref a)) (r2 : RP K cl G (.lst m) (.ref b)) : WOk K cl ρ G (Itz K a b) (srcL (zipL l m)) := by
  intro E0 ρ' G' st H i p s R
  cases r with
  | lst h q =>
    cases r2 with
    | lst h2 q2 =>
      rename_i vs us
      have hq : SqL K H a vs := .inl (.inl (R.sub _ _ (s _ _ h)))
      have hq2 : SqL K H b us := .inl (.inl (R.sub _ _ (s _ _ h2)))
      show match some (zipL l m)[i]? with | none => True | some none => _ | some (some w) => _
      rw [zipL_get]
      have z := q.get2 q2 i
      cases e : l[i]? with
      | none => rw [e] at z; exact ⟨vs, us, hq, hq2, z⟩
      | some x =>
        cases e2 : m[i]? with
        | none => rw [e, e2] at z; exact ⟨vs, us, hq, hq2, z⟩
        | some y =>
          rw [e, e2] at z
          obtain ⟨v, u, ev, eu, rv, ru⟩ := z
          refine ⟨⟨vs, us, v, u, hq, hq2, ev, eu⟩, fun w H' yl => ?_⟩
          obtain ⟨T, v', u', rfl, hT, rfl, y1, y2⟩ := yl
          have : v' = v := Option.some.inj ((y1 vs hq).symm.trans ev)
          subst this
          have : u' = u := Option.some.inj ((y2 us hq2).symm.trans eu)
          subst this
          have sn := Sub.new (o := .tup [v', u']) (R.gnone hT)
          exact ⟨_, sn, R.froze hT, RP.tup (.inl (.inl upd_same)) (.cons (rv.mono (s.trans sn)) (.cons (ru.mono (s.trans sn)) .nil))⟩
theorem si_zip {a b : EM} {e e2 : Expr} {p pos tpos : Pos} {elts : List Expr} {kk : Nat} (g : GX K X) (hg : Gl X "zip") (hm : X.mg "zip" = none) (ha : SE K cl X Wx a e) (hb : SE K cl X Wx b e2)
    (hs : starEach [e, e2] X.env = (false, eval e X.env) :: starEach [e2] X.env := by rfl) (hs2 : starEach [e2] X.env = (false, eval e2 X.env) :: starEach [] X.env := by rfl) (hpl : (backTo pos (starEach [e2] X.env)).any (·.1) = false := by rfl) :
    SI K cl X Wx (.Tuple elts kk tpos) (mZip a b) (.Call (.Name "zip" p) [e, e2] [] pos) := by
  obtain ⟨hK, _⟩ := g
  subst hK
  refine ⟨fun E0 ρ G σ st τ H R Rl S q => TIc.of (RZ.pi_zipA hg hm (pa_cons T.pe (T.pa1 hs2) hs) hs hpl) ?_⟩
  refine ha.run E0 ρ G σ st τ H _ Rl S (Aft.seq q fun w st1 ρ1 G1 H1 v e1 p1 s1 R1 u1 h1 => ?_)
  refine hb.run E0 ρ1 G1 σ st1 τ H1 _ R1 (S.mono p1 s1) (Aft.seq h1 fun u st2 ρ2 G2 H2 v2 e2 p2 s2 R2 u2 h2 => ?_)
  replace u1 := RW.mono p2 s2 u1
  unfold vZip at h2
  split at h2
  · rename_i sr er
    split at er
    · rename_i l m
      cases er
      have r1 := u1; have r2 := u2
      cases u1 with
      | tup hh qq =>
        cases u2 with
        | tup hh2 qq2 => exact ⟨_, _, _, _, rfl, .inr ⟨R2.sub.sqT hh, R2.sub.sqT hh2, h2 ρ2 G2 H2 _ (List.prefix_refl _) (Sub.refl _) R2 (wok_zipT r1 r2)⟩⟩
    · split at er
      · rename_i l m el em
        cases er
        cases w with
        | r j => cases el
        | p w =>
          cases u with
          | r j => cases em
          | p u =>
            cases w with
            | lst l' =>
              cases u with
              | lst m' =>
                cases el; cases em
                have r1 := u1; have r2 := u2
                cases u1 with
                | lst hh qq =>
                  cases u2 with
                  | lst hh2 qq2 => exact ⟨_, _, _, _, rfl, .inl ⟨.inl (.inl (R2.sub _ _ hh)), .inl (.inl (R2.sub _ _ hh2)), h2 ρ2 G2 H2 _ (List.prefix_refl _) (Sub.refl _) R2 (wok_zipL r1 r2)⟩⟩
              | _ => cases em
            | _ => cases el
      · cases er
  · exact h2.elim
end
end Y

/-! Y7: operations, by values. -/
namespace Y
open PySem PySem.Spec PyProof.Rows L2

/-! ### data as the library reads it -/
mutual
def toD : P → Option PyData
  | .non => some .none
  | .bl b => some (.bool b)
  | .int i => some (.int i)
  | .str s => some (.str s)
  | .tup l => match toDs l with
    | some ds => some (.tuple ds)
    | none => none
  | .lst l => match toDs l with
    | some ds => some (.list ds)
    | none => none
  | .scr _ => none
  | .dk _ _ => none
  | .obj _ _ => none
  | .exn _ _ => none
def toDs : List P → Option (List PyData)
  | [] => some []
  | x :: l => match toD x, toDs l with
    | some d, some ds => some (d :: ds)
    | _, _ => none
end
/-- a value read as data: a cell that is a list of data, too -/
def unC (st : List Cell) : W → Option P
  | .p x => some x
  | .r i => match st[i]? with
    | some (.lst l) => match pures l with
      | some m => some (.lst m)
      | none => none
    | _ => none
section
variable {K : PySem.W.Frag} {cl : Cls} {X : Cx} {Wx : WX} {E0 : En} {ρ ρ' : List Addr} {G G' : Hp} {σ : Sg} {τ : L2.St} {st : List Cell} {H : Hp} {D : Ends}
mutual
theorem RP.dp (s : Sub G H) : ∀ {x : P} {v : V} {d : PyData}, RP K cl G x v → toD x = some d → Dp K H v d
  | _, _, _, .non, e => by rw [toD] at e; cases e; exact .non
  | _, _, _, .bl b, e => by rw [toD] at e; cases e; exact .bl b
  | _, _, _, .int i, e => by rw [toD] at e; cases e; exact .int i
  | _, _, _, .str z, e => by rw [toD] at e; cases e; exact .str z
  | _, _, _, .tup h r, e => by
    rw [toD] at e
    split at e
    · rename_i ds e2; cases e; exact .tup (s.sqT h) (RPs.dp s r e2)
    · cases e
  | _, _, _, .lst h r, e => by
    rw [toD] at e
    split at e
    · rename_i ds e2; cases e; exact .lst (.inl (.inl (s _ _ h))) (RPs.dp s r e2)
    · cases e
  | _, _, _, .scr h, e => by rw [toD] at e; cases e
  | _, _, _, .dk h z r, e => by rw [toD] at e; cases e
  | _, _, _, .obj c h z r, e => by rw [toD] at e; cases e
  | _, _, _, .exn c x h d z r, e => by rw [toD] at e; cases e
theorem RPs.dp (s : Sub G H) : ∀ {l : List P} {vs : List V} {ds : List PyData}, RPs K cl G l vs → toDs l = some ds → DpAll K H vs ds
  | _, _, _, .nil, e => by rw [toDs] at e; cases e; exact .nil
  | _, _, _, .cons h r, e => by
    rw [toDs] at e
    split at e
    · rename_i d ds e1 e2; cases e; exact .cons (RP.dp s h e1) (RPs.dp s r e2)
    · cases e
end
def unD (st : List Cell) (w : W) : Option PyData := (unC st w).bind toD
theorem unD_ok (R : (bs K cl E0).Rel ρ G st H) {w : W} {v : V} {d : PyData} (r : RW K cl ρ G w v) (e : unD st w = some d) : Dp K H v d := by
  cases w with
  | p x => exact RP.dp R.sub r e
  | r i =>
    obtain ⟨a, ha, rfl⟩ := r
    unfold unD unC at e
    dsimp only at e
    split at e
    · rename_i l el
      split at e
      · rename_i m em
        obtain ⟨b, hb, ⟨vs, h2, h3⟩, _⟩ := R.at el
        cases Option.some.inj (ha.symm.trans hb)
        have e : toD (.lst m) = some d := e
        rw [toD] at e
        split at e
        · rename_i ds e2
          cases e
          exact .lst (.inl (.inl h2)) ((h3.pures em).dp R.sub e2)
        · cases e
      · cases e
    · cases e

/-! ### == and != -/
/-- of single things -/
def eqS : P → P → Option Bool
  | .non, .non => some true
  | .int a, .int b => some (a == b)
  | .bl a, .bl b => some (a == b)
  | .str a, .str b => some (a == b)
  | .non, .int _ => some false
  | .int _, .non => some false
  | .non, .bl _ => some false
  | .bl _, .non => some false
  | .non, .str _ => some false
  | .str _, .non => some false
  | .int _, .str _ => some false
  | .str _, .int _ => some false
  | .bl _, .str _ => some false
  | .str _, .bl _ => some false
  | _, _ => none
theorem eqS_ok {x y : P} {v u : V} {k : Bool} (r : RP K cl G x v) (r2 : RP K cl G y u) (e : eqS x y = some k) : scal v u = true ∧ decide (v = u) = k := by
  cases r <;> cases r2 <;> first
    | (unfold eqS at e; cases e; done)
    | (cases e; exact ⟨rfl, dec_int⟩)
    | (cases e; exact ⟨rfl, dec_bl⟩)
    | (cases e; exact ⟨rfl, dec_str⟩)
    | (cases e; exact ⟨rfl, by simp⟩)
def eqW : W → W → Option Bool
  | .p x, .p y => eqS x y
  | _, _ => none
def vEqB (neg : Bool) (x y : W) (st : List Cell) : Res W := match eqW x y with
  | some k => .ok (.p (.bl (if neg = true then !k else k))) st
  | none => match unD st x, unD st y with
    | some d, some e => if SeqAt.shaped d = true ∧ SeqAt.shaped e = true then .ok (.p (.bl (if neg = true then !PyData.eqv d e else PyData.eqv d e))) st else .no
    | _, _ => .no
theorem eqW_ok {x y : W} {v u : V} {k : Bool} (r : RW K cl ρ G x v) (r2 : RW K cl ρ G y u) (e : eqW x y = some k) : scal v u = true ∧ decide (v = u) = k := by
  cases x with
  | p x =>
    cases y with
    | p y => exact eqS_ok r r2 e
    | r j => cases e
  | r i => cases e
def rEqA (K : PySem.W.Frag) : R2 := fun x y H Q => rEq x y H Q ∨ rEqD K x y H Q
def rNeA (K : PySem.W.Frag) : R2 := fun x y H Q => rNe x y H Q ∨ rNeD K x y H Q
theorem vEq_ok : VOp K cl (vEqB false) (rEqA K) := by
  intro E0 ρ G st H x y v u Q Z R rx ry h
  unfold vEqB at h
  split at h
  · rename_i k ek
    obtain ⟨h1, h2⟩ := eqW_ok rx ry ek
    exact .inl ⟨h1, by rw [h2]; exact h.here R (RP.bl _)⟩
  · split at h
    · rename_i d e hd he
      split at h
      · rename_i hs
        exact .inr ⟨d, e, unD_ok R rx hd, unD_ok R ry he, hs.1, hs.2, h.here R (RP.bl _)⟩
      · exact h.elim
    · exact h.elim
theorem vNe_ok : VOp K cl (vEqB true) (rNeA K) := by
  intro E0 ρ G st H x y v u Q Z R rx ry h
  unfold vEqB at h
  split at h
  · rename_i k ek
    obtain ⟨h1, h2⟩ := eqW_ok rx ry ek
    exact .inl ⟨h1, by rw [h2]; exact h.here R (RP.bl _)⟩
  · split at h
    · rename_i d e hd he
      split at h
      · rename_i hs
        exact .inr ⟨d, e, unD_ok R rx hd, unD_ok R ry he, hs.1, hs.2, h.here R (RP.bl _)⟩
      · exact h.elim
    · exact h.elim
theorem op_eqA (hu : X.A.units + 64 < cLine) : OpR X (compareOp .Eq) (rEqA X.K) := op_eq.or (op_eqD hu)
theorem op_neA (hu : X.A.units + 64 < cLine) : OpR X (compareOp .NotEq) (rNeA X.K) := op_ne.or (op_neD hu)
theorem se_eq {a b : EM} {pa pb : Expr} {pos : Pos} (g : GX K X) (ha : SE K cl X Wx a pa) (hb : SE K cl X Wx b pb) (hm : behindInMarks .Eq pb = false := by rfl) : SE K cl X Wx (mBin (vEqB false) a b) (.Compare pa [.Eq] [pb] pos) := by
  obtain ⟨hK, hc, hN, hu, hh⟩ := g
  subst hK
  exact se_cmp (op_eqA (by omega)) hm vEq_ok ha hb
theorem se_ne {a b : EM} {pa pb : Expr} {pos : Pos} (g : GX K X) (ha : SE K cl X Wx a pa) (hb : SE K cl X Wx b pb) (hm : behindInMarks .NotEq pb = false := by rfl) : SE K cl X Wx (mBin (vEqB true) a b) (.Compare pa [.NotEq] [pb] pos) := by
  obtain ⟨hK, hc, hN, hu, hh⟩ := g
  subst hK
  exact se_cmp (op_neA (by omega)) hm vNe_ok ha hb

/-! ### in, not in: lists and tuples of flat items, lists of any data, texts -/
def flatP : P → Bool
  | .non => true
  | .bl _ => true
  | .int _ => true
  | .str _ => true
  | _ => false
def eqF : P → P → Bool
  | .non, .non => true
  | .bl a, .bl b => a == b
  | .bl a, .int b => (if a then 1 else 0) == b
  | .int a, .bl b => a == (if b then 1 else 0)
  | .int a, .int b => a == b
  | .str a, .str b => a == b
  | _, _ => false
def inP (x : P) (l : List P) : Bool := l.any fun y => eqF y x
theorem RP.flat {x : P} {v : V} (r : RP K cl G x v) (h : flatP x = true) : flatV v = true := by cases r <;> first | rfl | cases h
theorem RP.eqF {x y : P} {v u : V} (r : RP K cl G x v) (r2 : RP K cl G y u) (h : flatP x = true) (h2 : flatP y = true) : eqV v u = Y.eqF x y := by
  cases r <;> first | (cases h; done) | (cases r2 <;> first | (cases h2; done) | rfl)
theorem RPs.flat : ∀ {l : List P} {vs : List V}, RPs K cl G l vs → l.all flatP = true → vs.all flatV = true
  | _, _, .nil, _ => rfl
  | _, _, .cons h r, e => by
    rw [List.all_cons, Bool.and_eq_true] at e ⊢
    exact ⟨h.flat e.1, RPs.flat r e.2⟩
theorem RPs.inV {x : P} {v : V} (h : RP K cl G x v) (hx : flatP x = true) : ∀ {l : List P} {vs : List V}, RPs K cl G l vs → l.all flatP = true → L2.inV v vs = inP x l
  | _, _, .nil, _ => rfl
  | y :: l, u :: vs, .cons q r, e => by
    rw [List.all_cons, Bool.and_eq_true] at e
    have ih := RPs.inV h hx r e.2
    unfold L2.inV inP at ih ⊢
    rw [List.any_cons, List.any_cons, q.eqF h e.1 hx, ih]
def seqP (st : List Cell) (w : W) : Option (List P) := match unC st w with
  | some (.lst l) => some l
  | some (.tup l) => some l
  | _ => none
theorem seqP_ok (R : (bs K cl E0).Rel ρ G st H) {w : W} {v : V} {l : List P} (r : RW K cl ρ G w v) (e : seqP st w = some l) : ∃ a vs, v = .ref a ∧ (SqL K H a vs ∨ SqT K H a vs) ∧ RPs K cl G l vs := by
  unfold seqP unC at e
  cases w with
  | p x =>
    cases x with
    | lst m =>
      cases e
      cases r with
      | lst h q => exact ⟨_, _, rfl, .inl (.inl (.inl (R.sub _ _ h))), q⟩
    | tup m =>
      cases e
      cases r with
      | tup h q => exact ⟨_, _, rfl, .inr (R.sub.sqT h), q⟩
    | _ => cases e
  | r i =>
    obtain ⟨a, ha, rfl⟩ := r
    dsimp only at e
    split at e
    · rename_i m em
      split at em
      · rename_i l' el
        split at em
        · rename_i m' em'
          cases em
          cases e
          obtain ⟨b, hb, ⟨vs, h2, h3⟩, _⟩ := R.at el
          cases Option.some.inj (ha.symm.trans hb)
          exact ⟨a, vs, rfl, .inl (.inl (.inl h2)), h3.pures em'⟩
        · cases em
      · cases em
    · rename_i m em
      split at em
      · split at em
        · cases em
        · cases em
      · cases em
    · cases e
def occ (i j : Str) : Bool := !(Builtin.Str.occurrences j i 0 j.length 1).isEmpty
def vInB (neg : Bool) (x y : W) (st : List Cell) : Res W := match x, y with
  | .p (.str i), .p (.str j) => .ok (.p (.bl (if neg = true then !occ i j else occ i j))) st
  | .p x', y => match seqP st y with
    | some l => if flatP x' = true ∧ l.all flatP = true then .ok (.p (.bl (if neg = true then !inP x' l else inP x' l))) st else
      match toD x', unD st y with
      | some d, some (.list ds) => if SeqAt.shaped d = true ∧ SeqAt.shaped (.list ds) = true then .ok (.p (.bl (if neg = true then !ds.any fun z => PyData.eqv z d else ds.any fun z => PyData.eqv z d))) st else .no
      | _, _ => .no
    | none => .no
  | _, _ => .no
def rInA (K : PySem.W.Frag) (neg : Bool) : R2 := fun x y H Q => (rIn K neg x y H Q ∨ (if neg = true then rNotInD K x y H Q else rInD K x y H Q)) ∨ ∃ i j, x = .str i ∧ y = .str j ∧ Q (.bl (if neg = true then !occ i j else occ i j)) H
theorem op_inA (hu : X.A.units + 65 < cLine) : OpR X (compareOp .In) (rInA X.K false) := by
  intro pins s σ H x y v u Q I rx ry h
  rcases h with (h | h) | h
  · exact op_in_seq pins s σ H x y v u Q I rx ry h
  · exact op_inD hu pins s σ H x y v u Q I rx ry h
  · exact op_in_str pins s σ H x y v u Q I rx ry h
theorem op_notInA (hu : X.A.units + 65 < cLine) : OpR X (compareOp .NotIn) (rInA X.K true) := by
  intro pins s σ H x y v u Q I rx ry h
  rcases h with (h | h) | h
  · exact op_notIn_seq pins s σ H x y v u Q I rx ry h
  · exact op_notInD hu pins s σ H x y v u Q I rx ry h
  · exact op_notIn_str pins s σ H x y v u Q I rx ry h
theorem vIn_ok {neg : Bool} : VOp K cl (vInB neg) (rInA K neg) := by
  intro E0 ρ G st H x y v u Q Z R rx ry h
  unfold vInB at h
  split at h
  · rename_i i j
    cases rx; cases ry
    exact .inr ⟨i, j, rfl, rfl, h.here R (RP.bl _)⟩
  · rename_i x' _ _
    split at h
    · rename_i l el
      split at h
      · rename_i hf
        obtain ⟨a, vs, rfl, h1, h2⟩ := seqP_ok R ry el
        refine .inl (.inl ⟨a, vs, rfl, h1, RP.flat rx hf.1, h2.flat hf.2, ?_⟩)
        rw [RPs.inV rx hf.1 h2 hf.2]
        exact h.here R (RP.bl _)
      · split at h
        · rename_i d ds hd hds
          split at h
          · rename_i hs
            refine .inl (.inr ?_)
            cases neg with
            | true => exact ⟨d, ds, RP.dp R.sub rx hd, unD_ok R ry hds, hs.1, hs.2, h.here R (RP.bl _)⟩
            | false => exact ⟨d, ds, RP.dp R.sub rx hd, unD_ok R ry hds, hs.1, hs.2, h.here R (RP.bl _)⟩
          · exact h.elim
        · exact h.elim
    · exact h.elim
  · exact h.elim
theorem se_in {a b : EM} {pa pb : Expr} {pos : Pos} (g : GX K X) (ha : SE K cl X Wx a pa) (hb : SE K cl X Wx b pb) (hm : behindInMarks .In pb = false := by rfl) : SE K cl X Wx (mBin (vInB false) a b) (.Compare pa [.In] [pb] pos) := by
  obtain ⟨hK, _, _, hu, _⟩ := g
  subst hK
  exact se_cmp (op_inA hu) hm vIn_ok ha hb
theorem se_notIn {a b : EM} {pa pb : Expr} {pos : Pos} (g : GX K X) (ha : SE K cl X Wx a pa) (hb : SE K cl X Wx b pb) (hm : behindInMarks .NotIn pb = false := by rfl) : SE K cl X Wx (mBin (vInB true) a b) (.Compare pa [.NotIn] [pb] pos) := by
  obtain ⟨hK, _, _, hu, _⟩ := g
  subst hK
  exact se_cmp (op_notInA hu) hm vIn_ok ha hb

/-! ### is None -/
def vIsN (neg : Bool) (x y : W) (st : List Cell) : Res W := match y with
  | .p .non => match x with
    | .p .non => .ok (.p (.bl (!neg))) st
    | _ => .ok (.p (.bl neg)) st
  | _ => .no
theorem RW.nonOnly {x : W} {v : V} (r : RW K cl ρ G x v) (h : x ≠ .p .non) : v ≠ .non := fun e => by
  subst e
  cases x with
  | p x => cases r; exact h rfl
  | r i => obtain ⟨a, _, e⟩ := r; cases e
theorem vIs_ok : VOp K cl (vIsN false) (fun x y H Q => y = .non ∧ Q (.bl (decide (x = .non))) H) := by
  intro E0 ρ G st H x y v u Q Z R rx ry h
  unfold vIsN at h
  split at h
  · cases ry
    refine ⟨rfl, ?_⟩
    split at h
    · cases rx; exact h.here R (RP.bl _)
    · rename_i hn
      rw [decide_eq_false (rx.nonOnly hn)]
      exact h.here R (RP.bl _)
  · exact h.elim
theorem vIsNot_ok : VOp K cl (vIsN true) (fun x y H Q => y = .non ∧ Q (.bl (!decide (x = .non))) H) := by
  intro E0 ρ G st H x y v u Q Z R rx ry h
  unfold vIsN at h
  split at h
  · cases ry
    refine ⟨rfl, ?_⟩
    split at h
    · cases rx; exact h.here R (RP.bl _)
    · rename_i hn
      rw [decide_eq_false (rx.nonOnly hn)]
      exact h.here R (RP.bl _)
  · exact h.elim

/-! ### + - * // % ** -/
def mulOk (i j : Int) : Bool := decide (i.natAbs.log2 + j.natAbs.log2 < 1000000)
def vAdd (x y : W) (st : List Cell) : Res W := match x, y with
  | .p (.int i), .p (.int j) => .ok (.p (.int (i + j))) st
  | .p (.str i), .p (.str j) => if i.length + j.length ≤ LIM then .ok (.p (.str (i ++ j))) st else .no
  | .p (.tup l), .p (.tup m) => if l.length + m.length ≤ LIM then .ok (.p (.tup (l ++ m))) st else .no
  | x, y => match unC st x, unC st y with
    | some (.lst l), some (.lst m) => if l.length + m.length ≤ LIM then .ok (.p (.lst (l ++ m))) st else .no
    | _, _ => .no
def rAddA (K : PySem.W.Frag) : R2 := fun x y H Q => ((rI0 (fun i j => .int (i + j)) x y H Q ∨ ∃ i j, x = .str i ∧ y = .str j ∧ i.length + j.length ≤ sizeLine ∧ Q (.str (i ++ j)) H) ∨ rCatA K x y H Q) ∨ rCat x y H Q
theorem op_addA : OpR X (binaryOp .Add) (rAddA X.K) := ((op_add.or op_add_str).or op_catA).or op_cat
theorem unC_lst (R : (bs K cl E0).Rel ρ G st H) {w : W} {v : V} {l : List P} (r : RW K cl ρ G w v) (e : unC st w = some (.lst l)) : ∃ a vs, v = .ref a ∧ H a = some (.lst vs) ∧ RPs K cl G l vs := by
  unfold unC at e
  cases w with
  | p x =>
    cases e
    cases r with
    | lst h q => exact ⟨_, _, rfl, R.sub _ _ h, q⟩
  | r i =>
    obtain ⟨a, ha, rfl⟩ := r
    dsimp only at e
    split at e
    · rename_i l' el
      split at e
      · rename_i m' em'
        cases e
        obtain ⟨b, hb, ⟨vs, h2, h3⟩, _⟩ := R.at el
        cases Option.some.inj (ha.symm.trans hb)
        exact ⟨a, vs, rfl, h2, h3.pures em'⟩
      · cases e
    · cases e
theorem vAdd_ok : VOp K cl vAdd (rAddA K) := by
  intro E0 ρ G st H x y v u Q Z R rx ry h
  unfold vAdd at h
  split at h
  · cases rx; cases ry
    exact .inl (.inl (.inl ⟨_, _, rfl, rfl, h.here R (RP.int _)⟩))
  · cases rx; cases ry
    split at h
    · rename_i hl
      exact .inl (.inl (.inr ⟨_, _, rfl, rfl, lim_le hl, h.here R (RP.str _)⟩))
    · exact h.elim
  · rename_i l m
    cases rx with
    | tup h1 q1 =>
      cases ry with
      | tup h2 q2 =>
        split at h
        · rename_i hl
          refine .inl (.inr ⟨_, _, _, _, rfl, rfl, R.sub.sqT h1, R.sub.sqT h2, by rw [← q1.length, ← q2.length]; exact lim_le hl, fun e => ?_, fun _ e => ?_, fun _ _ p hp => ?_⟩)
          · subst e
            cases q1
            exact h.here R (RP.tup h2 q2)
          · subst e
            cases q2
            rw [List.append_nil] at h
            exact h.here R (RP.tup h1 q1)
          · exact h.newP R hp (.tup (.inl (.inl upd_same)) ((q1.append q2).mono (Sub.new (R.gnone hp))))
        · exact h.elim
  · split at h
    · rename_i l m el em
      obtain ⟨a, vs, rfl, h1, q1⟩ := unC_lst R rx el
      obtain ⟨b, us, rfl, h2, q2⟩ := unC_lst R ry em
      split at h
      · rename_i hl
        exact .inr ⟨_, _, _, _, rfl, rfl, h1, h2, by rw [← q1.length, ← q2.length]; exact lim_le hl, fun p hp => h.newP R hp (.lst upd_same ((q1.append q2).mono (Sub.new (R.gnone hp))))⟩
      · exact h.elim
    · exact h.elim
theorem se_add {a b : EM} {pa pb : Expr} {pos : Pos} (g : GX K X) (ha : SE K cl X Wx a pa) (hb : SE K cl X Wx b pb) : SE K cl X Wx (mBin vAdd a b) (.BinOp pa .Add pb pos) := by
  obtain ⟨hK, _⟩ := g
  subst hK
  exact se_bin op_addA vAdd_ok ha hb
def vSub := vI2 (fun _ _ => true) fun i j => .int (i - j)
theorem se_sub {a b : EM} {pa pb : Expr} {pos : Pos} (ha : SE K cl X Wx a pa) (hb : SE K cl X Wx b pb) : SE K cl X Wx (mBin vSub a b) (.BinOp pa .Sub pb pos) := se_bin op_sub (vI2_ok0 fun i j G => RP.int _) ha hb
def vFdv := vI2 (fun _ j => decide (0 < j ∧ j.natAbs.log2 < 9000)) fun i j => .int (i / j)
theorem se_fdv {a b : EM} {pa pb : Expr} {pos : Pos} (ha : SE K cl X Wx a pa) (hb : SE K cl X Wx b pb) : SE K cl X Wx (mBin vFdv a b) (.BinOp pa .FloorDiv pb pos) := se_bin op_fdivW (vI2_ok (fun i j G => RP.int _) fun i j h => by have h := of_decide_eq_true h; exact h) ha hb
def vMod := vI2 (fun _ j => decide (0 < j)) fun i j => .int (i % j)
theorem se_mod {a b : EM} {pa pb : Expr} {pos : Pos} (ha : SE K cl X Wx a pa) (hb : SE K cl X Wx b pb) : SE K cl X Wx (mBin vMod a b) (.BinOp pa .Mod pb pos) := se_bin op_mod (vI2_ok (fun i j G => RP.int _) fun i j h => by have h := of_decide_eq_true h; exact h) ha hb
def vPow := vI2 (fun i j => decide (0 ≤ j ∧ j ≤ 1000 ∧ i.natAbs < 1000)) fun i j => .int (i ^ j.toNat)
theorem se_pow {a b : EM} {pa pb : Expr} {pos : Pos} (ha : SE K cl X Wx a pa) (hb : SE K cl X Wx b pb) : SE K cl X Wx (mBin vPow a b) (.BinOp pa .Pow pb pos) := se_bin op_pow (vI2_ok (fun i j G => RP.int _) fun i j h => by
  have h := of_decide_eq_true h
  exact ⟨h.1, by omega, by omega⟩) ha hb
def vMulI := vI2 mulOk fun i j => .int (i * j)
theorem se_mulI {a b : EM} {pa pb : Expr} {pos : Pos} (ha : SE K cl X Wx a pa) (hb : SE K cl X Wx b pb) : SE K cl X Wx (mBin vMulI a b) (.BinOp pa .Mult pb pos) := se_bin op_mulW (vI2_ok (fun i j G => RP.int _) fun i j h => by have h := of_decide_eq_true h; exact h) ha hb
/-! < <= > >= of ints -/
def vLt := vI2 (fun _ _ => true) fun i j => .bl (decide (i < j))
def vLe := vI2 (fun _ _ => true) fun i j => .bl (decide (i ≤ j))
def vGt := vI2 (fun _ _ => true) fun i j => .bl (decide (j < i))
def vGe := vI2 (fun _ _ => true) fun i j => .bl (decide (j ≤ i))
theorem vLt_ok : VOp K cl vLt (rI0 fun i j => .bl (decide (i < j))) := vI2_ok0 fun i j G => RP.bl _
theorem vLe_ok : VOp K cl vLe (rI0 fun i j => .bl (decide (i ≤ j))) := vI2_ok0 fun i j G => RP.bl _
theorem vGt_ok : VOp K cl vGt (rI0 fun i j => .bl (decide (j < i))) := vI2_ok0 fun i j G => RP.bl _
theorem vGe_ok : VOp K cl vGe (rI0 fun i j => .bl (decide (j ≤ i))) := vI2_ok0 fun i j G => RP.bl _
theorem se_lt {a b : EM} {pa pb : Expr} {pos : Pos} (ha : SE K cl X Wx a pa) (hb : SE K cl X Wx b pb) (hm : behindInMarks .Lt pb = false := by rfl) : SE K cl X Wx (mBin vLt a b) (.Compare pa [.Lt] [pb] pos) := se_cmp op_lt hm vLt_ok ha hb
theorem se_le {a b : EM} {pa pb : Expr} {pos : Pos} (ha : SE K cl X Wx a pa) (hb : SE K cl X Wx b pb) (hm : behindInMarks .LtE pb = false := by rfl) : SE K cl X Wx (mBin vLe a b) (.Compare pa [.LtE] [pb] pos) := se_cmp op_le hm vLe_ok ha hb
theorem se_gt {a b : EM} {pa pb : Expr} {pos : Pos} (ha : SE K cl X Wx a pa) (hb : SE K cl X Wx b pb) (hm : behindInMarks .Gt pb = false := by rfl) : SE K cl X Wx (mBin vGt a b) (.Compare pa [.Gt] [pb] pos) := se_cmp op_gt hm vGt_ok ha hb
theorem se_ge {a b : EM} {pa pb : Expr} {pos : Pos} (ha : SE K cl X Wx a pa) (hb : SE K cl X Wx b pb) (hm : behindInMarks .GtE pb = false := by rfl) : SE K cl X Wx (mBin vGe a b) (.Compare pa [.GtE] [pb] pos) := se_cmp op_ge hm vGe_ok ha hb
theorem se_is {a b : EM} {pa pb : Expr} {pos : Pos} (ha : SE K cl X Wx a pa) (hb : SE K cl X Wx b pb) (hm : behindInMarks .Is pb = false := by rfl) : SE K cl X Wx (mBin (vIsN false) a b) (.Compare pa [.Is] [pb] pos) := se_cmp op_isN hm vIs_ok ha hb
theorem se_isNot {a b : EM} {pa pb : Expr} {pos : Pos} (ha : SE K cl X Wx a pa) (hb : SE K cl X Wx b pb) (hm : behindInMarks .IsNot pb = false := by rfl) : SE K cl X Wx (mBin (vIsN true) a b) (.Compare pa [.IsNot] [pb] pos) := se_cmp op_notN hm vIsNot_ok ha hb
/-- a chain of two comparisons, bools -/
def mChain (f f2 : W → W → List Cell → Res W) (a b c : EM) : EM := fun σ st => (a σ st).bind fun x st1 => (b σ st1).bind fun y st2 => (f x y st2).bind fun t st3 => match t with
  | .p (.bl k) => if k = true then (c σ st3).bind fun z st4 => f2 y z st4 else .ok (.p (.bl false)) st3
  | _ => .no
/-- the same for every chain: what it does, from what the chain asks -/
theorem chain_core {r r' : R2} {f f2 : W → W → List Cell → Res W} {a b c : EM} {pa pb pc : Expr} {Q : VK} (hf : VOp K cl f r) (hf2 : VOp K cl f2 r') (ha : SE K cl X Wx a pa) (hb : SE K cl X Wx b pb) (hc : SE K cl X Wx c pc)
    (R : (bs K cl E0).Rel ρ G st H) (S : RS K cl ρ G σ τ) (h : Aft (bs K cl E0) (bs K cl E0).RW ρ G (mChain f f2 a b c σ st) Q (fun c d H' => Wx c d τ H')) : tChain r r' (T X pa) (T X pb) (T X pc) τ H Q := by
  refine ha.run E0 ρ G σ st τ H _ R S (Aft.seq h fun x st1 ρ1 G1 H1 v e1 p1 s1 R1 u1 h1 => ?_)
  refine hb.run E0 ρ1 G1 σ st1 τ H1 _ R1 (S.mono p1 s1) (Aft.seq h1 fun y st2 ρ2 G2 H2 u e2 p2 s2 R2 u2 h2 => ?_)
  refine hf E0 ρ2 G2 st2 H2 x y v u _ _ R2 (RW.mono p2 s2 u1) u2 (Aft.seq h2 fun t st3 ρ3 G3 H3 z e3 p3 s3 R3 u3 h3 => ?_)
  split at h3
  · rename_i k
    cases u3
    refine ⟨k, rfl, ?_⟩
    cases k with
    | false => exact Aft.here (b := V.bl false) h3 R3 (RP.bl false)
    | true =>
      simp only [if_true] at h3 ⊢
      refine hc.run E0 ρ3 G3 σ st3 τ H3 _ R3 (S.mono (p1.trans (p2.trans p3)) (s1.trans (s2.trans s3))) (Aft.seq h3 fun w st4 ρ4 G4 H4 w' e4 p4 s4 R4 u4 h4 => ?_)
      exact hf2 E0 ρ4 G4 st4 H4 y w u w' _ _ R4 (RW.mono (p3.trans p4) (s3.trans s4) u2) u4 h4
  · exact h3.elim
theorem se_chain {op op' : CmpOp} {r r' : R2} {f f2 : W → W → List Cell → Res W} {a b c : EM} {pa pb pc : Expr} {pos : Pos} (ho : OpR X (compareOp op) r) (ho' : OpR X (compareOp op') r') (hf : VOp K cl f r) (hf2 : VOp K cl f2 r')
    (ha : SE K cl X Wx a pa) (hb : SE K cl X Wx b pb) (hc : SE K cl X Wx c pc) (hm : lastMarks [op, op'] [pb, pc] = false := by with_unfolding_all rfl) : SE K cl X Wx (mChain f f2 a b c) (.Compare pa [op, op'] [pb, pc] pos) :=
  ⟨fun E0 ρ G σ st τ H Q R S h => T.of (pe_chain ho ho' T.pe T.pe T.pe hm) (chain_core hf hf2 ha hb hc R S h)⟩
theorem st_chain {op op' : CmpOp} {r r' : R2} {f f2 : W → W → List Cell → Res W} {a b c : EM} {pa pb pc : Expr} {pos : Pos} (ho : OpR X (compareOp op) r) (ho' : OpR X (compareOp op') r') (hf : VOp K cl f r) (hf2 : VOp K cl f2 r')
    (ha : SE K cl X Wx a pa) (hb : SE K cl X Wx b pb) (hc : SE K cl X Wx c pc) (hm : lastMarks [op, op'] [pb, pc] = false := by with_unfolding_all rfl) : ST K cl X Wx (mTst (mChain f f2 a b c)) (.Compare pa [op, op'] [pb, pc] pos) := by
  refine ⟨fun E0 ρ G σ st τ H Q R S h => TT'.of (pt_chain ho ho' T.pe T.pe T.pe hm) ?_⟩
  refine chain_core hf hf2 ha hb hc R S (Aft.seq h fun x st1 ρ1 G1 H1 v e1 p1 s1 R1 u1 h1 => ?_)
  split at h1
  · rename_i k
    cases u1
    exact ⟨k, rfl, h1.here R1 rfl⟩
  · exact h1.elim

/-! ### - of an int -/
def mNeg (a : EM) : EM := fun σ st => (a σ st).bind fun w st1 => match w with
  | .p (.int i) => .ok (.p (.int (-i))) st1
  | _ => .no
theorem se_neg {a : EM} {pa : Expr} {pos : Pos} (ha : SE K cl X Wx a pa) : SE K cl X Wx (mNeg a) (.UnaryOp .USub pa pos) := by
  refine ⟨fun E0 ρ G σ st τ H Q R S h => T.of (pe_un un_neg T.pe) ?_⟩
  refine ha.run E0 ρ G σ st τ H _ R S (Aft.seq h fun w st1 ρ1 G1 H1 v e1 p1 s1 R1 u1 h1 => ?_)
  split at h1
  · rename_i i
    cases u1
    exact ⟨i, rfl, h1.here R1 (RP.int _)⟩
  · exact h1.elim

/-! ### slices a[lo:hi] -/
abbrev OM := Sg → List Cell → Res (Option Int)
def TO' (X : Cx) (e : Option Expr) : TO := fun σ H Q => ∀ (pins : List (Addr × Obj)) (s : Shared), Inv X pins σ H s →
  wpAny (model X.prog X.w) X.A (evalPart e X.env) (fun u s' => ∃ o H', Inv X pins σ H' s' ∧ IsPart u o ∧ Q o H') X.xe s
theorem TO'.po {e : Option Expr} : PO X e (TO' X e) := ⟨fun pins s σ H Q I h => h pins s I⟩
theorem TO'.of {e : Option Expr} {t : TO} {Q : Option Int → Hp → Prop} (h : PO X e t) (q : t τ H Q) : TO' X e τ H Q := fun pins s I => h.run pins s τ H Q I q
structure SO (K : PySem.W.Frag) (cl : Cls) (X : Cx) (Wx : WX) (m : OM) (e : Option Expr) : Prop where
  run : ∀ E0 ρ G σ st τ H Q, (bs K cl E0).Rel ρ G st H → RS K cl ρ G σ τ → Aft (bs K cl E0) (fun _ _ (a b : Option Int) => a = b) ρ G (m σ st) Q (fun c d H' => Wx c d τ H') → TO' X e τ H Q
def oNone : OM := fun _ st => .ok none st
def oSome (a : EM) : OM := fun σ st => (a σ st).bind fun w st1 => match w with
  | .p (.int i) => .ok (some i) st1
  | _ => .no
theorem so_none : SO K cl X Wx oNone none := ⟨fun E0 ρ G σ st τ H Q R S h => TO'.of po_none (h.here (b := none) R rfl)⟩
theorem so_some {a : EM} {e : Expr} (ha : SE K cl X Wx a e) : SO K cl X Wx (oSome a) (some e) := by
  refine ⟨fun E0 ρ G σ st τ H Q R S h => TO'.of (po_some T.pe) ?_⟩
  refine ha.run E0 ρ G σ st τ H _ R S (Aft.seq h fun w st1 ρ1 G1 H1 v e1 p1 s1 R1 u1 h1 => ?_)
  split at h1
  · rename_i i
    cases u1
    exact ⟨i, rfl, h1.here (b := some i) R1 rfl⟩
  · exact h1.elim
def cutL {α : Type} (xs : List α) (lo hi : Option Int) : List α := (xs.drop (HT.sIx xs.length 0 lo)).take (HT.sIx xs.length xs.length hi - HT.sIx xs.length 0 lo)
theorem RPs.cut {l : List P} {vs : List V} (q : RPs K cl G l vs) (lo hi : Option Int) : RPs K cl G (cutL l lo hi) (cutV vs lo hi) := by
  unfold cutL cutV
  rw [q.length]
  exact (q.drop _).take _
theorem cutL_all {α : Type} {xs : List α} {lo hi : Option Int} (h : HT.sIx xs.length 0 lo = 0 ∧ HT.sIx xs.length xs.length hi = xs.length) : cutL xs lo hi = xs := by
  unfold cutL
  rw [h.1, h.2]; simp
def vSl (x : W) (lo hi : Option Int) (st : List Cell) : Res W := match x with
  | .p (.str z) => if z.length ≤ LIM then .ok (.p (.str (cutS z lo hi))) st else .no
  | .p (.tup l) => .ok (.p (.tup (cutL l lo hi))) st
  | .p (.scr l) => .ok (.p (.lst ((cutL l lo hi).map .int))) st
  | x => match unC st x with
    | some (.lst l) => .ok (.p (.lst (cutL l lo hi))) st
    | _ => .no
def mSl (a : EM) (lo hi : OM) : EM := fun σ st => (a σ st).bind fun x st1 => (lo σ st1).bind fun l st2 => (hi σ st2).bind fun u st3 => vSl x l u st3
theorem map_cut {l : List Int} {lo hi : Option Int} : cutV (l.map V.int) lo hi = (cutL l lo hi).map V.int := by
  unfold cutV cutL
  rw [List.length_map, List.map_take, List.map_drop]
theorem se_sl {a : EM} {lo hi : OM} {e : Expr} {el eh : Option Expr} {pos p2 : Pos} (g : GX K X) (ha : SE K cl X Wx a e) (hl : SO K cl X Wx lo el) (hh : SO K cl X Wx hi eh) : SE K cl X Wx (mSl a lo hi) (.Subscript e (.Slice el eh none p2) pos) := by
  obtain ⟨hK, _⟩ := g
  subst hK
  refine ⟨fun E0 ρ G σ st τ H Q R S h => T.of (pe_slice ((sl_list.or sl_tupA).or sl_str) T.pe TO'.po TO'.po) ?_⟩
  refine ha.run E0 ρ G σ st τ H _ R S (Aft.seq h fun x st1 ρ1 G1 H1 v e1 p1 s1 R1 u1 h1 => ?_)
  refine hl.run E0 ρ1 G1 σ st1 τ H1 _ R1 (S.mono p1 s1) (Aft.seq h1 fun l st2 ρ2 G2 H2 l' e2 p2 s2 R2 u2 h2 => ?_)
  obtain rfl : l = l' := u2
  refine hh.run E0 ρ2 G2 σ st2 τ H2 _ R2 (S.mono (p1.trans p2) (s1.trans s2)) (Aft.seq h2 fun u st3 ρ3 G3 H3 u' e3 p3 s3 R3 u3 h3 => ?_)
  obtain rfl : u = u' := u3
  replace u1 := RW.mono (p2.trans p3) (s2.trans s3) u1
  unfold vSl at h3
  split at h3
  · cases u1
    split at h3
    · rename_i hz
      exact .inr ⟨_, rfl, lim_le hz, h3.here R3 (RP.str _)⟩
    · exact h3.elim
  · cases u1 with
    | tup hh q =>
      refine .inl (.inr ⟨_, _, rfl, R3.sub.sqT hh, fun e => ?_, fun e p hp => ?_⟩)
      · rw [cutL_all (by rw [q.length]; exact e)] at h3
        exact h3.here R3 (RP.tup hh q)
      · exact h3.newP R3 hp (.tup (.inl (.inl upd_same)) ((q.cut l u).mono (Sub.new (R3.gnone hp))))
  · cases u1 with
    | scr hh =>
      refine .inl (.inl ⟨_, _, rfl, R3.sub.sqL hh, fun p hp => ?_⟩)
      rw [map_cut]
      exact h3.newP R3 hp (.lst upd_same (RPs.ints _))
  · split at h3
    · rename_i m em
      obtain ⟨b, vs, rfl, h4, q⟩ := unC_lst R3 u1 em
      exact .inl (.inl ⟨_, _, rfl, .inl (.inl h4), fun p hp => h3.newP R3 hp (.lst upd_same ((q.cut l u).mono (Sub.new (R3.gnone hp))))⟩)
    · exact h3.elim
end
end Y

/-! Y8: calls of built-ins, by values. -/
namespace Y
open PySem PySem.Spec PyProof.Rows L2
section
variable {K : PySem.W.Frag} {cl : Cls} {X : Cx} {Wx : WX} {E0 : En} {ρ ρ' : List Addr} {G G' : Hp} {σ : Sg} {τ : L2.St} {st : List Cell} {H : Hp} {D : Ends}

theorem RWs.one {w : W} {vs : List V} (r : RWs K cl ρ G [w] vs) : ∃ v, vs = [v] ∧ RW K cl ρ G w v := by
  cases r with
  | cons r rn => cases rn; exact ⟨_, rfl, r⟩
theorem RWs.two {w w2 : W} {vs : List V} (r : RWs K cl ρ G [w, w2] vs) : ∃ v u, vs = [v, u] ∧ RW K cl ρ G w v ∧ RW K cl ρ G w2 u := by
  cases r with
  | cons r rn =>
    obtain ⟨u, rfl, r2⟩ := rn.one
    exact ⟨_, _, rfl, r, r2⟩
/-! abs, int, str -/
def vAbs (ws : List W) (st : List Cell) : Res W := match ws with
  | [.p (.int i)] => .ok (.p (.int (if i < 0 then -i else i))) st
  | _ => .no
theorem vAbs_ok : VCall K cl vAbs (fun xs H Q => ∃ i, xs = [.int i] ∧ Q (.int (if i < 0 then -i else i)) H) := by
  intro E0 ρ G st H ws vs Q Z R rw' h
  unfold vAbs at h
  split at h
  · obtain ⟨v, rfl, r⟩ := rw'.one
    cases r
    exact ⟨_, rfl, h.here R (RP.int _)⟩
  · exact h.elim
def vInt (ws : List W) (st : List Cell) : Res W := match ws with
  | [.p (.int i)] => .ok (.p (.int i)) st
  | [.p (.bl k)] => .ok (.p (.int (if k then 1 else 0))) st
  | [.p (.str a)] => match PySem.intText? a with
    | some n => if a.length ≤ 640 then .ok (.p (.int n)) st else .no
    | none => .no
  | _ => .no
def rIntA : List V → Hp → VK → Prop := fun xs H Q => ((∃ i, xs = [.int i] ∧ Q (.int i) H) ∨ ∃ k, xs = [.bl k] ∧ Q (.int (if k then 1 else 0)) H) ∨ ∃ a n, xs = [.str a] ∧ PySem.intText? a = some n ∧ a.length ≤ 640 ∧ Q (.int n) H
theorem call_intA : CallR X (.type "int") rIntA := call_int1.or call_int_str
theorem vInt_ok : VCall K cl vInt rIntA := by
  intro E0 ρ G st H ws vs Q Z R rw' h
  unfold vInt at h
  split at h
  · obtain ⟨v, rfl, r⟩ := rw'.one
    cases r
    exact .inl (.inl ⟨_, rfl, h.here R (RP.int _)⟩)
  · obtain ⟨v, rfl, r⟩ := rw'.one
    cases r
    exact .inl (.inr ⟨_, rfl, h.here R (RP.int _)⟩)
  · obtain ⟨v, rfl, r⟩ := rw'.one
    cases r
    split at h
    · rename_i n en
      split at h
      · rename_i hl
        exact .inr ⟨_, n, rfl, en, hl, h.here R (RP.int _)⟩
      · exact h.elim
    · exact h.elim
  · exact h.elim
def vStr (ws : List W) (st : List Cell) : Res W := match ws with
  | [.p (.int i)] => if i.natAbs.log2 < 1920 then .ok (.p (.str (toString i))) st else .no
  | [.p (.str a)] => .ok (.p (.str a)) st
  | _ => .no
def rStrA : List V → Hp → VK → Prop := fun xs H Q => (∃ i, xs = [.int i] ∧ i.natAbs.log2 < 1920 ∧ Q (.str (toString i)) H) ∨ ∃ a, xs = [.str a] ∧ Q (.str a) H
theorem call_strA : CallR X (.type "str") rStrA := call_str_int.or SkE.call_str_str
theorem vStr_ok : VCall K cl vStr rStrA := by
  intro E0 ρ G st H ws vs Q Z R rw' h
  unfold vStr at h
  split at h
  · obtain ⟨v, rfl, r⟩ := rw'.one
    cases r
    split at h
    · rename_i hl
      exact .inl ⟨_, rfl, hl, h.here R (RP.str _)⟩
    · exact h.elim
  · obtain ⟨v, rfl, r⟩ := rw'.one
    cases r
    exact .inr ⟨_, rfl, h.here R (RP.str _)⟩
  · exact h.elim

/-! ints in a list -/
def intsOf : List P → Option (List Int)
  | [] => some []
  | .int i :: l => match intsOf l with
    | some m => some (i :: m)
    | none => none
  | _ => none
theorem intsOf_map (l : List Int) : intsOf (l.map P.int) = some l := by
  induction l with
  | nil => rfl
  | cons i l ih => rw [List.map_cons, intsOf, ih]
theorem intsOf_eq : ∀ {l : List P} {m : List Int}, intsOf l = some m → l = m.map P.int
  | [], m, e => by rw [intsOf] at e; cases e; rfl
  | .int i :: l, m, e => by
    rw [intsOf] at e
    split at e
    · rename_i k ek; cases e; rw [intsOf_eq ek]; rfl
    · cases e
  | .non :: _, _, e | .bl _ :: _, _, e | .str _ :: _, _, e | .tup _ :: _, _, e | .lst _ :: _, _, e | .scr _ :: _, _, e | .dk _ _ :: _, _, e | .obj _ _ :: _, _, e | .exn _ _ :: _, _, e => by
    unfold intsOf at e; cases e
def listOf (st : List Cell) (w : W) : Option (List P) := match unC st w with
  | some (.lst l) => some l
  | _ => none
theorem listOf_ok (R : (bs K cl E0).Rel ρ G st H) {w : W} {v : V} {l : List P} (r : RW K cl ρ G w v) (e : listOf st w = some l) : ∃ a vs, v = .ref a ∧ H a = some (.lst vs) ∧ RPs K cl G l vs := by
  unfold listOf at e
  split at e
  · rename_i m em
    cases e
    exact unC_lst R r em
  · cases e
def maxI : List Int → Int
  | [] => 0
  | [i] => i
  | i :: l => max i (maxI l)
def minI : List Int → Int
  | [] => 0
  | [i] => i
  | i :: l => min i (minI l)
theorem maxI_is : ∀ {l : List Int} {m : Int}, m ∈ l → (∀ y, y ∈ l → y ≤ m) → m = maxI l
  | [i], m, h, _ => by simpa [maxI] using h
  | i :: j :: l, m, h, k => by
    have h1 : i ≤ m := k i List.mem_cons_self
    show m = max i (maxI (j :: l))
    rcases List.mem_cons.mp h with rfl | h
    · have : maxI (j :: l) ≤ m := by
        have hm : maxI (j :: l) ∈ j :: l := maxI_mem
        exact k _ (List.mem_cons_of_mem _ hm)
      omega
    · rw [← maxI_is h fun y hy => k y (List.mem_cons_of_mem _ hy)]; omega
where maxI_mem : ∀ {j : Int} {l : List Int}, maxI (j :: l) ∈ j :: l
  | j, [] => by simp [maxI]
  | j, i :: l => by
    show max j (maxI (i :: l)) ∈ _
    have ih : maxI (i :: l) ∈ i :: l := maxI_mem
    by_cases h : j ≤ maxI (i :: l)
    · rw [Int.max_eq_right h]; exact List.mem_cons_of_mem _ ih
    · rw [Int.max_eq_left (by omega)]; exact List.mem_cons_self
theorem minI_is : ∀ {l : List Int} {m : Int}, m ∈ l → (∀ y, y ∈ l → m ≤ y) → m = minI l
  | [i], m, h, _ => by simpa [minI] using h
  | i :: j :: l, m, h, k => by
    have h1 : m ≤ i := k i List.mem_cons_self
    show m = min i (minI (j :: l))
    rcases List.mem_cons.mp h with rfl | h
    · have : m ≤ minI (j :: l) := by
        have hm : minI (j :: l) ∈ j :: l := minI_mem
        exact k _ (List.mem_cons_of_mem _ hm)
      omega
    · rw [← minI_is h fun y hy => k y (List.mem_cons_of_mem _ hy)]; omega
where minI_mem : ∀ {j : Int} {l : List Int}, minI (j :: l) ∈ j :: l
  | j, [] => by simp [minI]
  | j, i :: l => by
    show min j (minI (i :: l)) ∈ _
    have ih : minI (i :: l) ∈ i :: l := minI_mem
    by_cases h : minI (i :: l) ≤ j
    · rw [Int.min_eq_right h]; exact List.mem_cons_of_mem _ ih
    · rw [Int.min_eq_left (by omega)]; exact List.mem_cons_self
def vSum (ws : List W) (st : List Cell) : Res W := match ws with
  | [w] => match (listOf st w).bind intsOf with
    | some l => .ok (.p (.int l.sum)) st
    | none => .no
  | _ => .no
theorem listInts_ok (R : (bs K cl E0).Rel ρ G st H) {w : W} {v : V} {l : List Int} (r : RW K cl ρ G w v) (e : (listOf st w).bind intsOf = some l) : ∃ a, v = .ref a ∧ SqL K H a (l.map V.int) := by
  cases e1 : listOf st w with
  | none => rw [e1] at e; cases e
  | some m =>
    rw [e1] at e
    obtain ⟨a, vs, rfl, h1, q⟩ := listOf_ok R r e1
    have := intsOf_eq (show intsOf m = some l from e)
    subst this
    rw [q.of_ints] at h1
    exact ⟨a, rfl, .inl (.inl h1)⟩
theorem vSum_ok : VCall K cl vSum (rSum K) := by
  intro E0 ρ G st H ws vs Q Z R rw' h
  unfold vSum at h
  split at h
  · obtain ⟨v, rfl, r⟩ := rw'.one
    split at h
    · rename_i l el
      obtain ⟨a, rfl, hs⟩ := listInts_ok R r el
      exact ⟨a, l, rfl, hs, h.here R (RP.int _)⟩
    · exact h.elim
  · exact h.elim
def vMax (ws : List W) (st : List Cell) : Res W := match ws with
  | [w] => match (listOf st w).bind intsOf with
    | some l => if 0 < l.length then .ok (.p (.int (maxI l))) st else .no
    | none => .no
  | [.p (.int i), .p (.int j)] => .ok (.p (.int (if j > i then j else i))) st
  | _ => .no
def rMaxA (K : PySem.W.Frag) : List V → Hp → VK → Prop := fun xs H Q => rMax K xs H Q ∨ ∃ i j, xs = [.int i, .int j] ∧ Q (.int (if j > i then j else i)) H
theorem call_maxA (hc : X.calm = true) : CallR X (.builtin "max") (rMaxA X.K) := (cr_max hc).or (call_max2 hc)
theorem vMax_ok : VCall K cl vMax (rMaxA K) := by
  intro E0 ρ G st H ws vs Q Z R rw' h
  unfold vMax at h
  split at h
  · obtain ⟨v, rfl, r⟩ := rw'.one
    split at h
    · rename_i l el
      obtain ⟨a, rfl, hs⟩ := listInts_ok R r el
      split at h
      · rename_i hl
        refine .inl ⟨a, l, rfl, hs, hl, fun m h1 h2 => ?_⟩
        rw [maxI_is h1 h2]
        exact h.here R (RP.int _)
      · exact h.elim
    · exact h.elim
  · obtain ⟨v, u, rfl, r, r2⟩ := rw'.two
    cases r; cases r2
    exact .inr ⟨_, _, rfl, h.here R (RP.int _)⟩
  · exact h.elim
def vMin (ws : List W) (st : List Cell) : Res W := match ws with
  | [w] => match (listOf st w).bind intsOf with
    | some l => if 0 < l.length then .ok (.p (.int (minI l))) st else .no
    | none => .no
  | [.p (.int i), .p (.int j)] => .ok (.p (.int (if j < i then j else i))) st
  | _ => .no
def rMinA (K : PySem.W.Frag) : List V → Hp → VK → Prop := fun xs H Q => rMin K xs H Q ∨ ∃ i j, xs = [.int i, .int j] ∧ Q (.int (if j < i then j else i)) H
theorem call_minA (hc : X.calm = true) : CallR X (.builtin "min") (rMinA X.K) := (cr_min hc).or (call_min2 hc)
theorem vMin_ok : VCall K cl vMin (rMinA K) := by
  intro E0 ρ G st H ws vs Q Z R rw' h
  unfold vMin at h
  split at h
  · obtain ⟨v, rfl, r⟩ := rw'.one
    split at h
    · rename_i l el
      obtain ⟨a, rfl, hs⟩ := listInts_ok R r el
      split at h
      · rename_i hl
        refine .inl ⟨a, l, rfl, hs, hl, fun m h1 h2 => ?_⟩
        rw [minI_is h1 h2]
        exact h.here R (RP.int _)
      · exact h.elim
    · exact h.elim
  · obtain ⟨v, u, rfl, r, r2⟩ := rw'.two
    cases r; cases r2
    exact .inr ⟨_, _, rfl, h.here R (RP.int _)⟩
  · exact h.elim

/-! any, all: lists and tuples of ints and bools -/
def truF : P → Option Bool
  | .bl b => some b
  | .int i => some (i != 0)
  | _ => none
def trusF : List P → Option (List Bool)
  | [] => some []
  | x :: l => match truF x, trusF l with
    | some b, some bs => some (b :: bs)
    | _, _ => none
/-- ints and bools and their truths -/
inductive TrV : V → Bool → Prop where
  | bl (b : Bool) : TrV (.bl b) b
  | int (i : Int) : TrV (.int i) (i != 0)
theorem truF_ok {x : P} {v : V} {b : Bool} (r : RP K cl G x v) (e : truF x = some b) : TrV v b := by
  cases r <;> first | (unfold truF at e; cases e; done) | skip
  · cases e; exact .bl _
  · cases e; exact .int _
theorem trusF_ok : ∀ {l : List P} {vs : List V} {bs : List Bool}, RPs K cl G l vs → trusF l = some bs → Paired TrV vs bs
  | _, _, _, .nil, e => by rw [trusF] at e; cases e; exact .nil
  | _, _, _, .cons h r, e => by
    rw [trusF] at e
    split at e
    · rename_i b bs e1 e2; cases e; exact .cons (truF_ok h e1) (trusF_ok r e2)
    · cases e
theorem truth_tr {prog : Program} {w : World} {A : Around} : ∀ {vs : List V} {its : List Value} {bs : List Bool}, Vals vs its → Paired TrV vs bs → TruthOf prog w A (fun i v => its.toArray[i]? = some v) (fun i => bs.getD i false) := by
  intro vs its bs rv pr i v s Q E hv hq
  have hv' : its[i]? = some v := by simpa using hv
  clear hv
  induction rv generalizing i bs with
  | nil => simp at hv'
  | cons r t ih =>
    cases pr with
    | cons p pt =>
      cases i with
      | zero =>
        have e : _ = v := Option.some.inj hv'
        subst e
        have hq' : Q _ s := hq
        cases p with
        | bl b => cases r; exact wpAny_truthy_bool hq'
        | int i => obtain ⟨t, rfl⟩ := r; exact PySem.P.truthy_int hq'
      | succ i => exact ih pt i hq (by simpa using hv')
theorem iter_anyT {prog : Program} {w : World} {A : Around} {E : Value → Shared → Prop} {s : Shared} {l : Addr} {items : Array Value} {Q : Value → Shared → Prop} (hl : s.heap.IsTuple l items)
    (h : ∀ s₂ : Shared, s₂ = { s with heap := s.heap.push { cls := .type "tuple_iterator", data := .fields #[.ref l, .int 0 0] } } →
      (s₂.heap.IsTupleIter s.heap.objs.size l 0 ∧ s₂.heap.IsTuple l items) → l ≠ s.heap.objs.size → Q (.ref s.heap.objs.size) s₂) : wpAny (model prog w) A (pyIter (.ref l)) Q E s := by
  have hlt : l < s.heap.objs.size := by obtain ⟨_, e, _⟩ := hl; exact Heap.lt_size e
  exact wpAny_pyIter_tuple hl (h _ rfl ⟨⟨_, Heap.get?_push_size _ rfl, rfl, rfl⟩, hl.push _⟩ (Nat.ne_of_lt hlt))
def rAnyG (K : PySem.W.Frag) (f : List Bool → Bool) : List V → Hp → VK → Prop := fun xs H Q => ∃ a vs bs, xs = [V.ref a] ∧ (SqL K H a vs ∨ SqT K H a vs) ∧ Paired TrV vs bs ∧ Q (.bl (f bs)) H
theorem call_anyG (hc : X.calm = true) : CallR X (.builtin "any") (rAnyG X.K fun bs => bs.any id) := by
  intro pins s σ H xs us Q I r h
  obtain ⟨a, vs, bs, rfl, hs, pr, q⟩ := h
  rw [Vals.ref1 r]
  rcases hs with hs | hs
  · obtain ⟨its, rv, hl, _⟩ := I.list hs
    have hlen : its.toArray.size = bs.length := by rw [List.size_toArray, ← rv.length]; exact pr.length
    refine call_any_walk (iter_any hl.isList fun s₂ e2 st hne => ?_)
    subst e2
    refine ⟨_, _, _, _, _, _, _, rfl, Walks.list (A := X.A.in1) (I.ok.hd hc) _ a hne its.toArray, st, truth_tr rv pr, fun h' tk hk => ?_⟩
    refine ⟨.bl _, H, I.kept fun b o eo => hk b o (fun hmem => ?_) (Heap.get?_push_of_some _ eo), ?_, q⟩
    · rcases List.mem_cons.mp hmem with e1 | hmem
      · exact absurd (e1 ▸ Heap.lt_size eo) (Nat.lt_irrefl _)
      · cases hmem
    · dsimp only
      show Value.bool _ = Value.bool _
      rw [← L2.any_range, hlen]
  · obtain ⟨its, rv, hl, _⟩ := I.tuple hs
    have hlen : its.toArray.size = bs.length := by rw [List.size_toArray, ← rv.length]; exact pr.length
    refine call_any_walk (iter_anyT (show s.heap.IsTuple a its.toArray from hl) fun s₂ e2 st hne => ?_)
    subst e2
    refine ⟨_, _, _, _, _, _, _, rfl, Walks.tuple (A := X.A.in1) (I.ok.hd hc) _ a hne its.toArray, st, truth_tr rv pr, fun h' tk hk => ?_⟩
    refine ⟨.bl _, H, I.kept fun b o eo => hk b o (fun hmem => ?_) (Heap.get?_push_of_some _ eo), ?_, q⟩
    · rcases List.mem_cons.mp hmem with e1 | hmem
      · exact absurd (e1 ▸ Heap.lt_size eo) (Nat.lt_irrefl _)
      · cases hmem
    · dsimp only
      show Value.bool _ = Value.bool _
      rw [← L2.any_range, hlen]
theorem call_allG (hc : X.calm = true) : CallR X (.builtin "all") (rAnyG X.K fun bs => bs.all id) := by
  intro pins s σ H xs us Q I r h
  obtain ⟨a, vs, bs, rfl, hs, pr, q⟩ := h
  rw [Vals.ref1 r]
  rcases hs with hs | hs
  · obtain ⟨its, rv, hl, _⟩ := I.list hs
    have hlen : its.toArray.size = bs.length := by rw [List.size_toArray, ← rv.length]; exact pr.length
    refine call_all_walk (iter_any hl.isList fun s₂ e2 st hne => ?_)
    subst e2
    refine ⟨_, _, _, _, _, _, _, rfl, Walks.list (A := X.A.in1) (I.ok.hd hc) _ a hne its.toArray, st, truth_tr rv pr, fun h' tk hk => ?_⟩
    refine ⟨.bl _, H, I.kept fun b o eo => hk b o (fun hmem => ?_) (Heap.get?_push_of_some _ eo), ?_, q⟩
    · rcases List.mem_cons.mp hmem with e1 | hmem
      · exact absurd (e1 ▸ Heap.lt_size eo) (Nat.lt_irrefl _)
      · cases hmem
    · dsimp only
      show Value.bool _ = Value.bool _
      rw [← L2.all_range, hlen]
  · obtain ⟨its, rv, hl, _⟩ := I.tuple hs
    have hlen : its.toArray.size = bs.length := by rw [List.size_toArray, ← rv.length]; exact pr.length
    refine call_all_walk (iter_anyT (show s.heap.IsTuple a its.toArray from hl) fun s₂ e2 st hne => ?_)
    subst e2
    refine ⟨_, _, _, _, _, _, _, rfl, Walks.tuple (A := X.A.in1) (I.ok.hd hc) _ a hne its.toArray, st, truth_tr rv pr, fun h' tk hk => ?_⟩
    refine ⟨.bl _, H, I.kept fun b o eo => hk b o (fun hmem => ?_) (Heap.get?_push_of_some _ eo), ?_, q⟩
    · rcases List.mem_cons.mp hmem with e1 | hmem
      · exact absurd (e1 ▸ Heap.lt_size eo) (Nat.lt_irrefl _)
      · cases hmem
    · dsimp only
      show Value.bool _ = Value.bool _
      rw [← L2.all_range, hlen]
def vAnyG (f : List Bool → Bool) (ws : List W) (st : List Cell) : Res W := match ws with
  | [w] => match (seqP st w).bind trusF with
    | some bs => .ok (.p (.bl (f bs))) st
    | none => .no
  | _ => .no
theorem vAnyG_ok {f : List Bool → Bool} : VCall K cl (vAnyG f) (rAnyG K f) := by
  intro E0 ρ G st H ws vs Q Z R rw' h
  unfold vAnyG at h
  split at h
  · obtain ⟨v, rfl, r⟩ := rw'.one
    split at h
    · rename_i w _ bs eb
      cases e1 : seqP st w with
      | none => rw [e1] at eb; cases eb
      | some l =>
        rw [e1] at eb
        obtain ⟨a, us, rfl, h1, q⟩ := seqP_ok R r e1
        exact ⟨a, us, bs, rfl, h1, trusF_ok q eb, h.here R (RP.bl _)⟩
    · exact h.elim
  · exact h.elim

/-! list(x), tuple(x) -/
def vLstOf (ws : List W) (st : List Cell) : Res W := match ws with
  | [w] => match seqP st w with
    | some l => .ok (.p (.lst l)) st
    | none => .no
  | _ => .no
def vLstOfC (ws : List W) (st : List Cell) : Res W := match ws with
  | [w] => match seqP st w with
    | some l => .ok (.r st.length) (st ++ [.lst (l.map .p)])
    | none => .no
  | _ => .no
def rLstOf (K : PySem.W.Frag) : List V → Hp → VK → Prop := fun xs H Q => ∃ p ys, xs = [.ref p] ∧ (SqL K H p ys ∨ SqT K H p ys) ∧ ∀ l, H l = none → Q (.ref l) (upd H l (.lst ys))
theorem vLstOf_ok : VCall K cl vLstOf (rLstOf K) := by
  intro E0 ρ G st H ws vs Q Z R rw' h
  unfold vLstOf at h
  split at h
  · obtain ⟨v, rfl, r⟩ := rw'.one
    split at h
    · rename_i l el
      obtain ⟨a, us, rfl, h1, q⟩ := seqP_ok R r el
      exact ⟨a, us, rfl, h1, fun p hp => h.newP R hp (.lst upd_same (q.mono (Sub.new (R.gnone hp))))⟩
    · exact h.elim
  · exact h.elim
theorem vLstOfC_ok : VCall K cl vLstOfC (rLstOf K) := by
  intro E0 ρ G st H ws vs Q Z R rw' h
  unfold vLstOfC at h
  split at h
  · obtain ⟨v, rfl, r⟩ := rw'.one
    split at h
    · rename_i l el
      obtain ⟨a, us, rfl, h1, q⟩ := seqP_ok R r el
      exact ⟨a, us, rfl, h1, fun p hp => h.newC R hp (fun z => by cases z) ⟨us, upd_same, .of_pures q⟩⟩
    · exact h.elim
  · exact h.elim
def vTupOf (ws : List W) (st : List Cell) : Res W := match ws with
  | [.p (.tup l)] => .ok (.p (.tup l)) st
  | [w] => match listOf st w with
    | some l => .ok (.p (.tup l)) st
    | none => .no
  | _ => .no
def rTupOf (K : PySem.W.Frag) : List V → Hp → VK → Prop := fun xs H Q => ∃ p ys, xs = [.ref p] ∧ ((SqL K H p ys ∧ ∀ l, H l = none → Q (.ref l) (upd H l (.tup ys))) ∨ (SqT K H p ys ∧ Q (.ref p) H))
theorem vTupOf_ok : VCall K cl vTupOf (rTupOf K) := by
  intro E0 ρ G st H ws vs Q Z R rw' h
  unfold vTupOf at h
  split at h
  · obtain ⟨v, rfl, r⟩ := rw'.one
    cases r with
    | tup hh q => exact ⟨_, _, rfl, .inr ⟨R.sub.sqT hh, h.here R (RP.tup hh q)⟩⟩
  · obtain ⟨v, rfl, r⟩ := rw'.one
    split at h
    · rename_i l el
      obtain ⟨a, us, rfl, h1, q⟩ := listOf_ok R r el
      exact ⟨a, us, rfl, .inl ⟨.inl (.inl h1), fun p hp => h.newP R hp (.tup (.inl (.inl upd_same)) (q.mono (Sub.new (R.gnone hp))))⟩⟩
    · exact h.elim
  · exact h.elim
end
end Y

/-! Y9: calls of defs; making an instance. -/
namespace Y
open PySem PySem.Spec PyProof.Rows L2

/-! ### the callee's small store -/
def content : Cell → List W
  | .lst l => l
  | .dk _ l => l
  | .ins _ l => l
  | .dead => []
def plainC (c : Cell) : Bool := match c with
  | .dead => false
  | c => (pures (content c)).isSome
def argRefs : List W → List Nat
  | [] => []
  | .p _ :: l => argRefs l
  | .r i :: l => i :: argRefs l
def argIn : Nat → List W → List W
  | _, [] => []
  | k, .p x :: l => .p x :: argIn k l
  | k, .r _ :: l => .r k :: argIn (k + 1) l
def getCells (st : List Cell) : List Nat → Option (List Cell)
  | [] => some []
  | i :: is => match st[i]? with
    | some c => if plainC c = true then match getCells st is with
        | some cs => some (c :: cs)
        | none => none else none
    | none => none
def putCells : List Nat → List Cell → List Cell → List Cell
  | i :: is, c :: cs, st => (putCells is cs st).set i c
  | _, _, st => st
/-- behind the callee: n new ones come first in its store -/
def callEnd (n : Nat) (refs : List Nat) (st : List Cell) : Res W → Res W
  | .ok w st' => if ((st'.drop n).take refs.length).all plainC = true ∧ n + refs.length ≤ st'.length then match w with
      | .p x => .ok (.p x) (putCells refs (st'.drop n) st)
      | .r j => if n ≤ j ∧ j < n + refs.length then match refs[j - n]? with
          | some i => .ok (.r i) (putCells refs (st'.drop n) st)
          | none => .no
        else if n + refs.length ≤ j then match st'[j]? with
          | some c => if plainC c = true then .ok (.r st.length) (putCells refs (st'.drop n) st ++ [c]) else .no
          | none => .no
        else .no
    else .no
  | .exc x st' => if ((st'.drop n).take refs.length).all plainC = true ∧ n + refs.length ≤ st'.length then .exc x (putCells refs (st'.drop n) st) else .no
  | .no => .no
def callF (F : FM) (ws : List W) (st : List Cell) : Res W :=
  if (argRefs ws).Nodup then match getCells st (argRefs ws) with
    | some cs => callEnd 0 (argRefs ws) st (F (argIn 0 ws) cs)
    | none => .no
  else .no
/-- what a def promises -/
def spF (K : PySem.W.Frag) (cl : Cls) (F : FM) : Sp := fun vs H Q E => ∃ ρ0 G0 st0 ws, Rel K cl ⟨strip H, ρ0.length, G0⟩ ρ0 G0 st0 H ∧ RWs K cl ρ0 G0 ws vs ∧ Aft ⟨K, cl, ⟨strip H, ρ0.length, G0⟩⟩ (RW K cl) ρ0 G0 (F ws st0) Q E

section
variable {K : PySem.W.Frag} {cl : Cls} {X : Cx} {Wx : WX} {E0 : En} {ρ ρ' ρ2 : List Addr} {G G' : Hp} {σ : Sg} {τ : L2.St} {st st' : List Cell} {H H' Hm : Hp} {D : Ends}
theorem rws_plain {l : List W} {vs : List V} (h : (pures l).isSome = true) (r : RWs K cl ρ G l vs) : RWs K cl ρ2 G l vs := by
  cases e : pures l with
  | none => rw [e] at h; cases h
  | some m =>
    have q := r.pures e
    rw [pures_eq e]
    exact .of_pures q
theorem CA.plain {a : Addr} {c : Cell} (h : plainC c = true) (x : CA K cl ρ G H a c) : CA K cl ρ2 G H a c := by
  cases c with
  | lst l => obtain ⟨vs, h1, h2⟩ := x; exact ⟨vs, h1, rws_plain h h2⟩
  | dk ks l => obtain ⟨vs, h1, z, h2⟩ := x; exact ⟨vs, h1, z, rws_plain h h2⟩
  | ins c l => obtain ⟨C, dx, ns, vs, k, h1, z, h2⟩ := x; exact ⟨C, dx, ns, vs, k, h1, z, rws_plain h h2⟩
  | dead => cases h
theorem plainC_live {c : Cell} (h : plainC c = true) : c ≠ .dead := fun e => by subst e; cases h
theorem putCells_length : ∀ {refs : List Nat} {cs st : List Cell}, (putCells refs cs st).length = st.length
  | [], _, _ => by unfold putCells; rfl
  | _ :: _, [], _ => by unfold putCells; rfl
  | i :: is, c :: cs, st => by unfold putCells; rw [List.length_set]; exact putCells_length
theorem putCells_out : ∀ {refs : List Nat} {cs st : List Cell} {i : Nat}, i ∉ refs → (putCells refs cs st)[i]? = st[i]?
  | [], _, _, _, _ => by unfold putCells; rfl
  | _ :: _, [], _, _, _ => by unfold putCells; rfl
  | k :: is, c :: cs, st, i, h => by
    unfold putCells
    rw [List.getElem?_set_ne (fun e => h (by rw [e]; exact List.mem_cons_self))]
    exact putCells_out fun m => h (List.mem_cons_of_mem _ m)
theorem putCells_in : ∀ {refs : List Nat} {cs st : List Cell} {j i : Nat}, refs.Nodup → refs[j]? = some i → refs.length ≤ cs.length → i < st.length → (putCells refs cs st)[i]? = cs[j]?
  | [], _, _, _, _, _, h, _, _ => by simp at h
  | _ :: _, [], _, _, _, _, _, h, _ => by simp at h
  | k :: is, c :: cs, st, 0, i, nd, h, hl, hi => by
    simp at h
    subst h
    unfold putCells
    rw [List.getElem?_set_self (by rw [putCells_length]; exact hi)]
    rfl
  | k :: is, c :: cs, st, j + 1, i, nd, h, hl, hi => by
    have h : is[j]? = some i := by simpa using h
    have ne : k ≠ i := fun e => (List.nodup_cons.mp nd).1 (by rw [e]; exact List.mem_of_getElem? h)
    unfold putCells
    rw [List.getElem?_set_ne ne]
    rw [putCells_in (List.nodup_cons.mp nd).2 h (by simpa using hl) hi]
    simp
theorem getCells_at : ∀ {refs : List Nat} {cs : List Cell} {j i : Nat}, getCells st refs = some cs → refs[j]? = some i → ∃ c, cs[j]? = some c ∧ st[i]? = some c ∧ plainC c = true
  | [], _, _, _, _, h => by simp at h
  | k :: is, cs, j, i, e, h => by
    rw [getCells] at e
    split at e
    · rename_i c ec
      split at e
      · rename_i hp
        split at e
        · rename_i ds ed
          cases e
          cases j with
          | zero =>
            simp at h
            subst h
            exact ⟨c, rfl, ec, hp⟩
          | succ j =>
            obtain ⟨d, h1, h2⟩ := getCells_at (j := j) ed (by simpa using h)
            exact ⟨d, by simpa using h1, h2⟩
        · cases e
      · cases e
    · cases e
theorem getCells_length : ∀ {refs : List Nat} {cs : List Cell}, getCells st refs = some cs → cs.length = refs.length
  | [], cs, e => by rw [getCells] at e; cases e; rfl
  | k :: is, cs, e => by
    rw [getCells] at e
    split at e
    · split at e
      · split at e
        · rename_i ds ed
          cases e
          exact congrArg Nat.succ (getCells_length ed)
        · cases e
      · cases e
    · cases e
/-- the addresses of the cells handed in -/
def rhos (ρ : List Addr) (refs : List Nat) : List Addr := refs.map fun i => ρ.getD i 0
theorem rhos_at (R : Rel K cl E0 ρ G st H) {refs : List Nat} {cs : List Cell} (e : getCells st refs = some cs) {j i : Nat} (h : refs[j]? = some i) : ∃ a, ρ[i]? = some a ∧ (rhos ρ refs)[j]? = some a := by
  obtain ⟨c, _, h2, _⟩ := getCells_at e h
  obtain ⟨a, ha, _⟩ := R.at h2
  refine ⟨a, ha, ?_⟩
  unfold rhos
  rw [List.getElem?_map, h]
  show some (ρ.getD i 0) = some a
  rw [List.getD_eq_getElem?_getD, ha]; rfl
theorem rhos_of (R : Rel K cl E0 ρ G st H) {refs : List Nat} {cs : List Cell} (e : getCells st refs = some cs) {j : Nat} {a : Addr} (h : (rhos ρ refs)[j]? = some a) : ∃ i, refs[j]? = some i ∧ ρ[i]? = some a := by
  unfold rhos at h
  rw [List.getElem?_map] at h
  cases q : refs[j]? with
  | none => rw [q] at h; cases h
  | some i =>
    obtain ⟨b, h1, h2⟩ := rhos_at R e q
    unfold rhos at h2
    rw [List.getElem?_map] at h2
    rw [h] at h2; cases h2
    exact ⟨i, rfl, h1⟩
theorem getElem?_inj {α : Type} {l : List α} (nd : l.Nodup) {i j : Nat} {a : α} (h1 : l[i]? = some a) (h2 : l[j]? = some a) : i = j := by
  have e1 := List.getElem?_eq_some_iff.mp h1
  have e2 := List.getElem?_eq_some_iff.mp h2
  exact (List.getElem_inj (h₀ := e1.1) (h₁ := e2.1) nd).mp (e1.2.trans e2.2.symm)
theorem rhos_nodup (R : Rel K cl E0 ρ G st H) {refs : List Nat} {cs : List Cell} (nd : refs.Nodup) (e : getCells st refs = some cs) : (rhos ρ refs).Nodup := by
  refine List.pairwise_iff_getElem.mpr fun i j hi hj hij q => ?_
  obtain ⟨k1, r1, e1⟩ := rhos_of R e (List.getElem?_eq_getElem hi)
  obtain ⟨k2, r2, e2⟩ := rhos_of R e (List.getElem?_eq_getElem hj)
  rw [q] at e1
  have := getElem?_inj R.nd e1 e2
  subst this
  have := getElem?_inj nd r1 r2
  omega
theorem app_cut {α : Type} {l m : List α} {i : Nat} {a : α} (h : (l ++ m)[i]? = some a) : (i < l.length ∧ l[i]? = some a) ∨ (l.length ≤ i ∧ m[i - l.length]? = some a) := by
  by_cases hi : i < l.length
  · rw [List.getElem?_append_left hi] at h; exact .inl ⟨hi, h⟩
  · rw [List.getElem?_append_right (by omega)] at h; exact .inr ⟨by omega, h⟩
/-- into the callee; xs: new objects, cells ahead of those handed in -/
theorem Rel.enter (R : Rel K cl E0 ρ G st H) {refs : List Nat} {cs xc : List Cell} {xs : List Addr} (nd : refs.Nodup) (hc : getCells st refs = some cs) (up : Sub H Hm) (hx : ∀ x ∈ xs, H x = none) (xnd : xs.Nodup) (xl : xs.length = xc.length)
    (hxc : ∀ (i : Nat) c x, xc[i]? = some c → xs[i]? = some x → CA K cl (xs ++ rhos ρ refs) G Hm x c) : Rel K cl ⟨strip Hm, (xs ++ rhos ρ refs).length, G⟩ (xs ++ rhos ρ refs) G (xc ++ cs) Hm := by
  have lr : (rhos ρ refs).length = refs.length := List.length_map ..
  have lc := getCells_length hc
  have there : ∀ a, a ∈ rhos ρ refs → ∃ o, H a = some o := fun a m => by
    obtain ⟨j, hj⟩ := List.getElem?_of_mem m
    obtain ⟨i, _, h2⟩ := rhos_of R hc hj
    exact R.there h2
  refine ⟨by rw [List.length_append, List.length_append, xl, lr, lc], ?_, fun i c a e1 e2 => ?_, fun i c a e1 e2 => ?_, R.sub.trans up, fun a u e _ => (strip_to e).1, fun i a hi e => ?_, Nat.le_refl _, fun a u e => .inl e, fun a u e => (strip_to e).2, R.gnt, fun q hq => (R.tabs q hq).ext up⟩
  · refine List.nodup_append.mpr ⟨xnd, rhos_nodup R nd hc, fun a ha b hb z => ?_⟩
    subst z
    obtain ⟨o, q⟩ := there a hb
    rw [hx a ha] at q; cases q
  · rcases app_cut e1 with ⟨h1, h2⟩ | ⟨h1, h2⟩ <;> rcases app_cut e2 with ⟨h3, h4⟩ | ⟨h3, h4⟩
    · exact hxc i c a h2 h4
    · omega
    · omega
    · rw [xl] at h4
      obtain ⟨k, r1, r2⟩ := rhos_of R hc h4
      obtain ⟨d, g1, g2, g3⟩ := getCells_at hc r1
      rw [h2] at g1; cases g1
      have x := R.cell k c a g2 r2
      obtain ⟨o, q⟩ := R.there r2
      exact CA.plain g3 (x.mono (List.prefix_refl _) (Sub.refl _) ((up a o q).trans q.symm))
  · rcases app_cut e1 with ⟨h1, h2⟩ | ⟨h1, h2⟩ <;> rcases app_cut e2 with ⟨h3, h4⟩ | ⟨h3, h4⟩
    · exact .inr (R.gnone (hx a (List.mem_of_getElem? h4)))
    · omega
    · omega
    · rw [xl] at h4
      obtain ⟨k, r1, r2⟩ := rhos_of R hc h4
      obtain ⟨d, g1, g2, g3⟩ := getCells_at hc r1
      rw [h2] at g1; cases g1
      exact R.sep k c a g2 r2
  · have := (List.getElem?_eq_some_iff.mp e).1
    have hi : (xs ++ rhos ρ refs).length ≤ i := hi
    omega
/-- back from the callee -/
theorem Rel.ret (R : Rel K cl E0 ρ G st H) {refs : List Nat} {cs : List Cell} {xs : List Addr} (nd : refs.Nodup) (hc : getCells st refs = some cs) (up : Sub H Hm) (hx : ∀ x ∈ xs, H x = none)
    (p : (xs ++ rhos ρ refs) <+: ρ') (s : Sub G G') (R' : Rel K cl ⟨strip Hm, (xs ++ rhos ρ refs).length, G⟩ ρ' G' st' H') (pl : ((st'.drop xs.length).take refs.length).all plainC = true) (ln : xs.length + refs.length ≤ st'.length) :
    Rel K cl E0 ρ G' (putCells refs (st'.drop xs.length) st) H' := by
  have lr : (rhos ρ refs).length = refs.length := List.length_map ..
  obtain ⟨tl, rfl⟩ := p
  -- a cell of the caller that is not handed in
  have notin : ∀ (i : Nat) a, ρ[i]? = some a → i ∉ refs → ∀ j : Nat, j < (xs ++ rhos ρ refs).length → (xs ++ rhos ρ refs ++ tl)[j]? ≠ some a := fun i a ha hi j hj e => by
    rw [List.getElem?_append_left hj] at e
    rcases app_cut e with ⟨h1, h2⟩ | ⟨h1, h2⟩
    · obtain ⟨o, q⟩ := R.there ha
      rw [hx a (List.mem_of_getElem? h2)] at q; cases q
    · obtain ⟨k, r1, r2⟩ := rhos_of R hc h2
      have := getElem?_inj R.nd r2 ha
      subst this
      exact hi (List.mem_of_getElem? r1)
  -- what was handed in, by places
  have inn : ∀ (j : Nat) a, j < (xs ++ rhos ρ refs).length → (xs ++ rhos ρ refs ++ tl)[j]? = some a → a ∈ xs ∨ ∃ i, i ∈ refs ∧ ρ[i]? = some a := fun j a hj e => by
    rw [List.getElem?_append_left hj] at e
    rcases app_cut e with ⟨h1, h2⟩ | ⟨h1, h2⟩
    · exact .inl (List.mem_of_getElem? h2)
    · obtain ⟨k, r1, r2⟩ := rhos_of R hc h2
      exact .inr ⟨k, List.mem_of_getElem? r1, r2⟩
  have at' : ∀ (i : Nat) a, i ∈ refs → ρ[i]? = some a → ∃ j, refs[j]? = some i ∧ (xs ++ rhos ρ refs ++ tl)[xs.length + j]? = some a ∧ j < refs.length := fun i a hi ha => by
    obtain ⟨j, hj⟩ := List.getElem?_of_mem hi
    obtain ⟨b, h1, h2⟩ := rhos_at R hc hj
    rw [ha] at h1; cases h1
    have hl : j < refs.length := (List.getElem?_eq_some_iff.mp hj).1
    refine ⟨j, hj, ?_, hl⟩
    rw [List.getElem?_append_left (by rw [List.length_append, lr]; omega), List.getElem?_append_right (by omega)]
    rw [show xs.length + j - xs.length = j by omega]; exact h2
  have hil : ∀ (i : Nat) a, ρ[i]? = some a → i < st.length := fun i a ha => by rw [← R.len]; exact (List.getElem?_eq_some_iff.mp ha).1
  refine ⟨by rw [putCells_length]; exact R.len, R.nd, fun i c a e1 e2 => ?_, fun i c a e1 e2 => ?_, R'.sub, fun a u e q => ?_, R.new, R.n0, fun a u e => ?_, R.ent, R'.gnt, R'.tabs⟩
  · by_cases hi : i ∈ refs
    · obtain ⟨j, h1, h2, h3⟩ := at' i a hi e2
      rw [putCells_in nd h1 (by rw [List.length_drop]; omega) (hil i a e2)] at e1
      have x := R'.cell (xs.length + j) c a (by rw [List.getElem?_drop] at e1; exact e1) h2
      have hp : plainC c = true := List.all_eq_true.mp pl c (List.mem_of_getElem? (i := j) (by rw [List.getElem?_take_of_lt h3]; exact e1))
      exact CA.plain hp x
    · rw [putCells_out hi] at e1
      by_cases hcd : c = .dead
      · subst hcd
        obtain ⟨o, z⟩ := R.cell i _ a e1 e2
        exact ⟨o, s _ _ z⟩
      · obtain ⟨o, q, po⟩ := (R.cell i c a e1 e2).po hcd
        have q2 := R'.old a o (strip_of (up a o q) po.1) (notin i a e2 hi)
        exact (R.cell i c a e1 e2).mono (List.prefix_refl _) s (q2.trans q.symm)
  · by_cases hi : i ∈ refs
    · obtain ⟨j, h1, h2, h3⟩ := at' i a hi e2
      rw [putCells_in nd h1 (by rw [List.length_drop]; omega) (hil i a e2)] at e1
      exact R'.sep (xs.length + j) c a (by rw [List.getElem?_drop] at e1; exact e1) h2
    · rw [putCells_out hi] at e1
      rcases R.sep i c a e1 e2 with z | z
      · exact .inl z
      · refine .inr ?_
        cases g : G' a with
        | none => rfl
        | some u =>
          obtain ⟨o, q⟩ := R.there e2
          rcases R'.grow a u g with y | y | ⟨j, hj, y⟩
          · have y : G a = some u := y
            rw [z] at y; cases y
          · have y : strip Hm a = none := y
            rcases strip_none y with y | ⟨ps, y⟩
            · rw [up a o q] at y; cases y
            · rw [up a o q] at y
              cases y
              exact absurd e2 ((R.tblF q).1 i)
          · exact absurd y (notin i a e2 hi j hj)
  · have h1 := R.old a u e q
    refine R'.old a u (strip_of (up a u h1) (R.ent a u e)) fun j hj y => ?_
    rcases inn j a hj y with m | ⟨i, hi, r⟩
    · rw [hx a m] at h1; cases h1
    · by_cases hn : i < E0.n0
      · exact q i hn r
      · rw [R.new i a (by omega) r] at e; cases e
  · rcases R'.grow a u e with y | y | ⟨j, hj, y⟩
    · exact R.grow a u y
    · have y : strip Hm a = none := y
      refine .inr (.inl ?_)
      rcases strip_none y with y | ⟨ps, y⟩
      · exact R.fresh0 (by
          cases g : H a with
          | none => rfl
          | some o => rw [up a o g] at y; cases y)
      · cases g : H a with
        | none => exact R.fresh0 g
        | some o =>
          rw [up a o g] at y
          cases y
          exact (R.tblF g).2
    · rcases inn j a hj y with m | ⟨i, hi, r⟩
      · exact .inr (.inl (R.fresh0 (hx a m)))
      · by_cases hn : i < E0.n0
        · exact .inr (.inr ⟨i, hn, r⟩)
        · exact .inr (.inl (R.new i a (by omega) r))
/-- the arguments, as they stand for the callee -/
theorem rws_argIn {ρc : List Addr} : ∀ {ws : List W} {vs : List V} (k : Nat), RWs K cl ρ G ws vs → (∀ (j i : Nat), (argRefs ws)[j]? = some i → ∃ a, ρ[i]? = some a ∧ ρc[k + j]? = some a) → RWs K cl ρc G (argIn k ws) vs
  | [], _, _, .nil, _ => .nil
  | .p x :: ws, _, k, .cons r rs, h => .cons (show RW K cl ρc G (.p x) _ from r) (rws_argIn k rs h)
  | .r i :: ws, _, k, .cons r rs, h => by
    obtain ⟨a, h1, h2⟩ := h 0 i rfl
    obtain ⟨b, h3, rfl⟩ := r
    rw [h1] at h3; cases h3
    refine .cons ⟨a, h2, rfl⟩ (rws_argIn (k + 1) rs fun j m e => ?_)
    obtain ⟨c, h4, h5⟩ := h (j + 1) m e
    exact ⟨c, h4, by rw [show k + 1 + j = k + (j + 1) by omega]; exact h5⟩
theorem callF_ok {F : FM} {ws : List W} {vs : List V} {Q : VK} {Z : ZX} (R : (bs K cl E0).Rel ρ G st H) (r : RWs K cl ρ G ws vs) (h : Aft (bs K cl E0) (bs K cl E0).RW ρ G (callF F ws st) Q Z) : spF K cl F vs H Q Z := by
  unfold callF at h
  split at h
  case isFalse => exact h.elim
  rename_i nd
  split at h
  case h_2 => exact h.elim
  rename_i cs hc
  have nx : ∀ x ∈ ([] : List Addr), H x = none := fun x m => absurd m (by simp)
  have lr : (rhos ρ (argRefs ws)).length = (argRefs ws).length := List.length_map ..
  refine ⟨[] ++ rhos ρ (argRefs ws), G, [] ++ cs, argIn 0 ws, Rel.enter R nd hc (Sub.refl H) nx (by simp) rfl (fun i c x e => by simp at e), rws_argIn 0 r fun j i e => ?_, ?_⟩
  · obtain ⟨a, h1, h2⟩ := rhos_at R hc e
    exact ⟨a, h1, by rw [Nat.zero_add]; exact h2⟩
  · have h : Aft (bs K cl E0) (bs K cl E0).RW ρ G (callEnd 0 (argRefs ws) st (F (argIn 0 ws) cs)) Q Z := h
    show Aft _ _ _ _ (F (argIn 0 ws) cs) Q Z
    generalize F (argIn 0 ws) cs = res at h ⊢
    cases res with
    | no => exact h.elim
    | exc x st' =>
      intro ρ' G' H' cls d p s R' u
      unfold callEnd at h
      dsimp only at h
      by_cases hp : ((st'.drop 0).take (argRefs ws).length).all plainC = true ∧ 0 + (argRefs ws).length ≤ st'.length
      case neg => rw [if_neg hp] at h; exact h.elim
      rw [if_pos hp] at h
      exact h ρ G' H' cls d (List.prefix_refl _) s (Rel.ret R nd hc (Sub.refl H) nx p s R' hp.1 (by simpa using hp.2)) u
    | ok w st' =>
      intro ρ' G' H' v p s R' u
      unfold callEnd at h
      dsimp only at h
      by_cases hp : ((st'.drop 0).take (argRefs ws).length).all plainC = true ∧ 0 + (argRefs ws).length ≤ st'.length
      case neg => rw [if_neg hp] at h; exact h.elim
      rw [if_pos hp] at h
      have R2 := Rel.ret R nd hc (Sub.refl H) nx p s R' hp.1 (by simpa using hp.2)
      split at h
      · exact h ρ G' H' v (List.prefix_refl _) s R2 u
      · rename_i j
        obtain ⟨a, ha, rfl⟩ := u
        split at h
        · rename_i hj
          split at h
          · rename_i i ei
            obtain ⟨b, h1, h2⟩ := rhos_at R hc ei
            have : (rhos ρ (argRefs ws))[j]? = some a := by
              obtain ⟨tl, rfl⟩ := p
              rw [List.nil_append] at ha
              rw [List.getElem?_append_left (by rw [lr]; omega)] at ha
              exact ha
            rw [Nat.sub_zero, this] at h2; cases h2
            exact h ρ G' H' (.ref a) (List.prefix_refl _) s R2 ⟨a, h1, rfl⟩
          · exact h.elim
        · split at h
          · rename_i hj
            split at h
            · rename_i c ec
              split at h
              · rename_i hpl
                have x := R'.cell j c a ec ha
                have sp := (R'.sep j c a ec ha).resolve_left (plainC_live hpl)
                have hn : strip H a = none := R'.new j a (by rw [List.nil_append, lr]; show (argRefs ws).length ≤ j; omega) ha
                have R3 := Rel.adoptC (c := c) R2 (plainC_live hpl) sp (fun i e => (R.offF hn).1 i e) (R.offF hn).2 (CA.plain hpl x)
                refine h (ρ ++ [a]) G' H' (.ref a) (List.prefix_append _ _) s R3 ⟨a, ?_, rfl⟩
                rw [← R.len]; simp
              · exact h.elim
            · exact h.elim
          · exact h.elim

/-! ### f(..) -/
def mCallF (F : FM) (a : AM) : EM := fun σ st => (a σ st).bind fun ws st1 => (callF F ws st1).nox
theorem Aft.noxZ {B : Bs} {α β : Type} {U : List Addr → Hp → α → β → Prop} {R : Res α} {Q : β → Hp → Prop} {Z Z' : ZX} (h : Aft B U ρ G R.nox Q Z) : Aft B U ρ G R Q Z' := by
  cases R with
  | ok a st => exact h
  | exc x st => exact h.elim
  | no => exact h.elim
section
variable {f : Addr} {fd : FuncData} {ps : List Str} {F : FM} {a : AM} {k : Nat} {x m : Str} {p pos apos : Pos} {e : Expr} {es : List Expr}
theorem se_call (Fk : FnOk X.prog X.w X.K X.mg X.base CX0 k f fd ps (spF K cl F)) (hr : Room k X.A) (hg : Gl X x) (hm : X.mg x = some (.ref f)) (hk : PySem.W.keepIn X.K (.ref f) = true) (hb : Binds X.K fd ps [])
    (ha : SA K cl X Wx a (e :: es)) (hdb : (x == ("__debug__" : Str)) = false := by decide) (he : starEach (e :: es) X.env = (false, eval e X.env) :: starEach es X.env := by rfl) (hpl : (backTo pos (starEach es X.env)).any (·.1) = false := by rfl) :
    SE K cl X Wx (mCallF F a) (.Call (.Name x p) (e :: es) [] pos) := by
  refine ⟨fun E0 ρ G σ st τ H Q R S h => T.of (pe_call (E := L2.E0) Fk hr hg hm hk hb .nil pass0 TA'.pa hdb he hpl) ?_⟩
  refine ha.run E0 ρ G σ st τ H _ R S (Aft.seq h fun ws st1 ρ1 G1 H1 vs e1 p1 s1 R1 u1 h1 => ?_)
  rw [List.append_nil]
  exact callF_ok R1 u1 h1.noxZ
theorem se_call0 (Fk : FnOk X.prog X.w X.K X.mg X.base CX0 k f fd ps (spF K cl F)) (hr : Room k X.A) (hg : Gl X x) (hm : X.mg x = some (.ref f)) (hk : PySem.W.keepIn X.K (.ref f) = true) (hb : Binds X.K fd ps [])
    (hdb : (x == ("__debug__" : Str)) = false := by decide) : SE K cl X Wx (mCallF F mNil) (.Call (.Name x p) [] [] pos) := by
  refine ⟨fun E0 ρ G σ st τ H Q R S h => T.of (pe_call0 (E := L2.E0) Fk hr hg hm hk hb .nil pass0 hdb) ?_⟩
  exact callF_ok R .nil h.noxZ

/-! ### o.m(..), o an instance -/
/-- which object it is: its class number -/
def clsOf (st : List Cell) : W → Option Nat
  | .p (.obj c _) => some c
  | .r i => match st[i]? with
    | some (.ins c _) => some c
    | _ => none
  | _ => none
theorem zip_lookup_none {ns : List Str} {vs : List V} {m : Str} (h : m ∉ ns) : (ns.zip vs).lookup m = none := by
  induction ns generalizing vs with
  | nil => rfl
  | cons n ns ih =>
    cases vs with
    | nil => rfl
    | cons v vs =>
      rw [List.zip_cons_cons, List.lookup_cons]
      have : (m == n) = false := beq_eq_false_iff_ne.mpr fun e => h (by rw [e]; exact List.mem_cons_self)
      rw [this]
      exact ih fun z => h (List.mem_cons_of_mem _ z)
theorem clsOf_ok {w : W} {v : V} {c : Nat} {C : Addr} {ns : List Str} (R : (bs K cl E0).Rel ρ G st H) (r : RW K cl ρ G w v) (e : clsOf st w = some c) (hc : cl[c]? = some (C, ns)) : ∃ a dx vs, v = .ref a ∧ H a = some (.ins C dx (ns.zip vs)) := by
  cases w with
  | p x =>
    cases x with
    | obj c' l =>
      cases e
      cases r with
      | obj h1 h2 z q =>
        rw [hc] at h1; cases h1
        exact ⟨_, _, _, rfl, R.sub _ _ h2⟩
    | _ => cases e
  | r i =>
    obtain ⟨a, ha, rfl⟩ := r
    have e : (match st[i]? with | some (.ins c _) => some c | _ => none) = some c := e
    split at e
    · rename_i c' l el
      cases e
      obtain ⟨b, hb, ⟨C', dx, ns', vs, k, h1, z, q⟩, _⟩ := R.at el
      cases Option.some.inj (ha.symm.trans hb)
      rw [hc] at k; cases k
      exact ⟨a, dx, vs, rfl, h1⟩
    · cases e
def mMeth (c : Nat) (F : FM) (o : EM) (a : AM) : EM := fun σ st => (o σ st).bind fun w st1 => if clsOf st1 w = some c then (a σ st1).bind fun ws st2 => (callF F (w :: ws) st2).nox else .no
theorem se_meth {C : Addr} {ns : List Str} {c : Nat} {o : EM} {eo : Expr} {pl : Sem Bool} (hC : cl[c]? = some (C, ns)) (hn : m ∉ ns) (kc : L2.Cls X.K C) (hmt : Meth X.K C m f) (Fk : FnOk X.prog X.w X.K X.mg X.base CX0 k f fd ps (spF K cl F)) (hr : Room k X.A) (hb : Binds X.K fd ps [])
    (ho : SE K cl X Wx o eo) (ha : SA K cl X Wx a (e :: es))
    (hst : starEach (e :: es) X.env = (false, eval e X.env) :: starEach es X.env := by rfl) (hpl : (backTo pos (starEach es X.env)).any (·.1) = false := by rfl)
    (ht : eval (.Call (.Attribute eo m apos) (e :: es) [] pos) X.env = (do
      let ov ← eval eo X.env
      standAt apos.atName
      let (f, first) ← holding [ov] (getMethod ov m pl)
      callWith pos f first (backTo pos (starEach (e :: es) X.env)) (backToKw pos (keywordEach [] X.env))) := by rfl) :
    SE K cl X Wx (mMeth c F o a) (.Call (.Attribute eo m apos) (e :: es) [] pos) := by
  refine ⟨fun E0 ρ G σ st τ H Q R S h => T.of (pe_meth (E := L2.E0) T.pe kc hmt Fk hr hb .nil pass0 TA'.pa hst hpl ht) ?_⟩
  refine ho.run E0 ρ G σ st τ H _ R S (Aft.seq h fun w st1 ρ1 G1 H1 v e1 p1 s1 R1 u1 h1 => ?_)
  split at h1
  case isFalse => exact h1.elim
  rename_i ec
  obtain ⟨b, dx, vs, rfl, hH⟩ := clsOf_ok R1 u1 ec hC
  refine ⟨b, dx, _, rfl, hH, zip_lookup_none hn, ?_⟩
  refine ha.run E0 ρ1 G1 σ st1 τ H1 _ R1 (S.mono p1 s1) (Aft.seq h1 fun ws st2 ρ2 G2 H2 us e2 p2 s2 R2 u2 h2 => ?_)
  rw [List.append_nil]
  exact callF_ok R2 (.cons (RW.mono p2 s2 u1) u2) h2.noxZ
theorem se_meth0 {C : Addr} {ns : List Str} {c : Nat} {o : EM} {eo : Expr} {pl : Sem Bool} (hC : cl[c]? = some (C, ns)) (hn : m ∉ ns) (kc : L2.Cls X.K C) (hmt : Meth X.K C m f) (Fk : FnOk X.prog X.w X.K X.mg X.base CX0 k f fd ps (spF K cl F)) (hr : Room k X.A) (hb : Binds X.K fd ps [])
    (ho : SE K cl X Wx o eo)
    (ht : eval (.Call (.Attribute eo m apos) [] [] pos) X.env = (do
      let ov ← eval eo X.env
      standAt apos.atName
      let (f, first) ← holding [ov] (getMethod ov m pl)
      callWith pos f first (backTo pos (starEach [] X.env)) (backToKw pos (keywordEach [] X.env))) := by rfl) :
    SE K cl X Wx (mMeth c F o mNil) (.Call (.Attribute eo m apos) [] [] pos) := by
  refine ⟨fun E0 ρ G σ st τ H Q R S h => T.of (pe_meth0 (E := L2.E0) T.pe kc hmt Fk hr hb .nil pass0 ht) ?_⟩
  refine ho.run E0 ρ G σ st τ H _ R S (Aft.seq h fun w st1 ρ1 G1 H1 v e1 p1 s1 R1 u1 h1 => ?_)
  split at h1
  case isFalse => exact h1.elim
  rename_i ec
  obtain ⟨b, dx, vs, rfl, hH⟩ := clsOf_ok R1 u1 ec hC
  refine ⟨b, dx, _, rfl, hH, zip_lookup_none hn, ?_⟩
  show spF K cl F (V.ref b :: ([] ++ [])) H1 Q L2.E0
  exact callF_ok R1 (.cons u1 .nil) (ws := [w]) (vs := [.ref b]) h1.noxZ

/-! ### C(..): an instance that never changes behind its __init__ -/
def makeF (c n : Nat) (F : FM) (ws : List W) (st : List Cell) : Res W :=
  if (argRefs ws).Nodup then match getCells st (argRefs ws) with
    | some cs => match F (.r 0 :: argIn 1 ws) (.ins c [] :: cs) with
      | .ok (.p .non) st' => if ((st'.drop 1).take (argRefs ws).length).all plainC = true ∧ 1 + (argRefs ws).length ≤ st'.length then match (st'[0]? : Option Cell) with
          | some (Cell.ins c' l) => match pures l with
            | some m => if c' = c ∧ m.length = n then .ok (.p (.obj c m)) (putCells (argRefs ws) (st'.drop 1) st) else .no
            | none => .no
          | _ => .no
        else .no
      | _ => .no
    | none => .no
  else .no
def mMake (c n : Nat) (F : FM) (a : AM) : EM := fun σ st => (a σ st).bind fun ws st1 => makeF c n F ws st1
theorem Rel.loose (R : Rel K cl E0 ρ G st H) {p : Addr} {o : HO} (h : H p = none) : Rel K cl E0 ρ G st (upd H p o) := by
  have ne : ∀ (i : Nat) a, ρ[i]? = some a → a ≠ p := fun i a e z => R.apart h i (by rw [e, z])
  have gp := R.gnone h
  refine ⟨R.len, R.nd, fun i c a e1 e2 => (R.cell i c a e1 e2).mono (List.prefix_refl _) (Sub.refl _) (upd_ne (ne i a e2)), R.sep, fun a u e => ?_, fun a u e q => ?_, R.new, R.n0, R.grow, R.ent, R.gnt, fun q hq => tabs_new (R.tabs q hq) h⟩
  · rw [upd_ne (fun z => by rw [z, gp] at e; cases e)]; exact R.sub a u e
  · have q2 := R.old a u e q
    rw [upd_ne (ne_of_none q2 h)]; exact q2
theorem makeF_ok {c n : Nat} {C : Addr} {ns : List Str} {ws : List W} {vs : List V} {Q : VK} {Z : ZX} {E : XK} (hC : cl[c]? = some (C, ns)) (hn : ns.length = n) (R : (bs K cl E0).Rel ρ G st H) (r : RWs K cl ρ G ws vs) (h : Aft (bs K cl E0) (bs K cl E0).RW ρ G (makeF c n F ws st) Q Z)
    {x dx : Addr} (hx : H x = none) (hdx : H dx = none) (hne : dx ≠ x) : spF K cl F (.ref x :: vs) (upd (upd H dx (.own x)) x (.ins C dx [])) (fun v H2 => v = .non ∧ Q (.ref x) H2) E := by
  unfold makeF at h
  split at h
  case isFalse => exact h.elim
  rename_i nd
  split at h
  case h_2 => exact h.elim
  rename_i cs hc
  generalize hHm : upd (upd H dx (.own x)) x (.ins C dx []) = Hm
  have up : Sub H Hm := fun a o e => by
    rw [← hHm, upd_ne (ne_of_none e hx), upd_ne (ne_of_none e hdx)]; exact e
  have nx : ∀ y ∈ [x], H y = none := fun y m => by
    have : y = x := by simpa using m
    subst this; exact hx
  have lr : (rhos ρ (argRefs ws)).length = (argRefs ws).length := List.length_map ..
  refine ⟨[x] ++ rhos ρ (argRefs ws), G, [.ins c []] ++ cs, .r 0 :: argIn 1 ws, Rel.enter R nd hc up nx (by simp) rfl (fun i d y e1 e2 => ?_), .cons ⟨x, rfl, rfl⟩ (rws_argIn 1 r fun j i e => ?_), ?_⟩
  · have hi : i = 0 := by
      have := (List.getElem?_eq_some_iff.mp e1).1
      simpa using this
    subst hi
    cases e1
    cases e2
    exact ⟨C, dx, ns, [], hC, by rw [← hHm, upd_same]; simp, Nat.zero_le _, .nil⟩
  · obtain ⟨a, h1, h2⟩ := rhos_at R hc e
    refine ⟨a, h1, ?_⟩
    rw [List.getElem?_append_right (by simp)]
    show (rhos ρ (argRefs ws))[1 + j - 1]? = some a
    rw [show 1 + j - 1 = j by omega]; exact h2
  · have e0 : ([.ins c []] ++ cs : List Cell) = .ins c [] :: cs := rfl
    rw [e0]
    generalize F (.r 0 :: argIn 1 ws) (.ins c [] :: cs) = res at h ⊢
    split at h
    case h_2 => exact h.elim
    rename_i st'
    intro ρ' G' H' v p s R' u
    cases u
    by_cases hp : ((st'.drop 1).take (argRefs ws).length).all plainC = true ∧ 1 + (argRefs ws).length ≤ st'.length
    case neg => rw [if_neg hp] at h; exact h.elim
    rw [if_pos hp] at h
    split at h
    case h_2 => exact h.elim
    rename_i c' l e1
    split at h
    case h_2 => exact h.elim
    rename_i m em
    split at h
    case isFalse => exact h.elim
    rename_i hh
    obtain ⟨rfl, hm⟩ := hh
    have R2 := Rel.ret R nd hc up nx p s R' hp.1 (by simpa using hp.2)
    have px : ρ'[0]? = some x := by
      obtain ⟨tl, rfl⟩ := p
      rfl
    obtain ⟨C', dx', ns', us, k1, k2, k3, k4⟩ := R'.cell 0 _ x e1 px
    rw [hC] at k1; cases k1
    have gx : G' x = none := (R'.sep 0 _ x e1 px).resolve_left (fun z => by cases z)
    have q := k4.pures em
    have hl : ns.length = us.length := by rw [← q.length, hm, hn]
    have R3 := Rel.adopt R2 k2 gx (fun i e => by
      obtain ⟨o, q⟩ := R.there e
      rw [hx] at q; cases q) (R.fresh0 hx)
    refine ⟨rfl, h ρ (upd G' x _) H' (.ref x) (List.prefix_refl _) (s.trans (Sub.new gx)) R3 ?_⟩
    exact .obj hC upd_same hl (q.mono (Sub.new gx))
theorem se_make {C : Addr} {ns : List Str} {c n : Nat} (hC : cl[c]? = some (C, ns)) (hn : ns.length = n) (M : Mk X.K C f) (Fk : FnOk X.prog X.w X.K X.mg X.base CX0 k f fd ps (spF K cl F)) (hr : Room (k + 1) X.A) (hg : Gl X x) (hm : X.mg x = some (.ref C)) (hb : Binds X.K fd ps [])
    (ha : SA K cl X Wx a (e :: es)) (hdb : (x == ("__debug__" : Str)) = false := by decide) (he : starEach (e :: es) X.env = (false, eval e X.env) :: starEach es X.env := by rfl) (hpl : (backTo pos (starEach es X.env)).any (·.1) = false := by rfl) :
    SE K cl X Wx (mMake c n F a) (.Call (.Name x p) (e :: es) [] pos) := by
  refine ⟨fun E0 ρ G σ st τ H Q R S h => T.of (pe_make (E := L2.E0) M Fk hr hg hm hb .nil pass0 TA'.pa hdb he hpl) ?_⟩
  refine ha.run E0 ρ G σ st τ H _ R S (Aft.seq h fun ws st1 ρ1 G1 H1 vs e1 p1 s1 R1 u1 h1 => ?_)
  intro y dx hy hdx hne
  rw [List.append_nil]
  exact makeF_ok hC hn R1 u1 h1 hy hdx hne

/-! ### fields -/
def mFld (cs : List (Nat × Nat)) (o : EM) : EM := fun σ st => (o σ st).bind fun w st1 => match w with
  | .p (.obj c l) => match cs.lookup c with
    | some i => match l[i]? with
      | some x => .ok (.p x) st1
      | none => .no
    | none => .no
  | .r j => match st1[j]? with
    | some (.ins c l) => match cs.lookup c with
      | some i => match l[i]? with
        | some x => .ok x st1
        | none => .no
      | none => .no
    | _ => .no
  | _ => .no
/-- the field stands at that place in each of these classes -/
structure FldAt (K : PySem.W.Frag) (cl : Cls) (fn : Str) (c i : Nat) : Prop where
  ex : ∃ C ns, cl[c]? = some (C, ns) ∧ ns.Nodup ∧ ns[i]? = some fn ∧ L2.Cls K C ∧ NoAttr K C fn
theorem zip_lookup_at : ∀ {ns : List Str} {vs : List V} {i : Nat} {m : Str} {v : V}, ns.Nodup → ns[i]? = some m → vs[i]? = some v → (ns.zip vs).lookup m = some v
  | [], _, _, _, _, _, h, _ => by simp at h
  | _ :: _, [], _, _, _, _, _, h => by simp at h
  | n :: ns, u :: vs, 0, m, v, _, h1, h2 => by
    simp at h1 h2
    subst h1; subst h2
    simp
  | n :: ns, u :: vs, i + 1, m, v, nd, h1, h2 => by
    have h1 : ns[i]? = some m := by simpa using h1
    have h2 : vs[i]? = some v := by simpa using h2
    rw [List.zip_cons_cons, List.lookup_cons]
    have : (m == n) = false := beq_eq_false_iff_ne.mpr fun e => (List.nodup_cons.mp nd).1 (by rw [← e]; exact List.mem_of_getElem? h1)
    rw [this]
    exact zip_lookup_at (List.nodup_cons.mp nd).2 h1 h2
theorem lookup_mem : ∀ {cs : List (Nat × Nat)} {c i : Nat}, cs.lookup c = some i → (c, i) ∈ cs
  | [], _, _, h => by simp at h
  | (a, b) :: cs, c, i, h => by
    rw [List.lookup_cons] at h
    split at h
    · rename_i e
      cases h
      have : c = a := eq_of_beq e
      subst this
      exact List.mem_cons_self
    · exact List.mem_cons_of_mem _ (lookup_mem h)
theorem se_fld {cs : List (Nat × Nat)} {o : EM} {eo : Expr} {fn : Str} (g : GX K X) (hf : ∀ q ∈ cs, FldAt K cl fn q.1 q.2) (ho : SE K cl X Wx o eo) (hb : attributeBase eo fn X.env (eval eo X.env) = eval eo X.env := by rfl) : SE K cl X Wx (mFld cs o) (.Attribute eo fn pos) := by
  obtain ⟨hK, _⟩ := g
  subst hK
  refine ⟨fun E0 ρ G σ st τ H Q R S h => T.of (pe_fld T.pe hb) ?_⟩
  refine ho.run E0 ρ G σ st τ H _ R S (Aft.seq h fun w st1 ρ1 G1 H1 v e1 p1 s1 R1 u1 h1 => ?_)
  split at h1
  · rename_i c l
    split at h1
    · rename_i i ei
      split at h1
      · rename_i y ey
        obtain ⟨C, ns, k1, k2, k3, k4, k5⟩ := (hf (c, i) (lookup_mem ei)).ex
        cases u1 with
        | obj g1 g2 z q =>
          rw [k1] at g1; cases g1
          obtain ⟨u, eu, ru⟩ := q.get ey
          exact ⟨_, C, _, _, u, rfl, R1.sub _ _ g2, k4, k5, zip_lookup_at k2 k3 eu, h1.here R1 ru⟩
      · exact h1.elim
    · exact h1.elim
  · rename_i j
    obtain ⟨b, hb', rfl⟩ := u1
    split at h1
    · rename_i c l el
      split at h1
      · rename_i i ei
        split at h1
        · rename_i y ey
          obtain ⟨C, ns, k1, k2, k3, k4, k5⟩ := (hf (c, i) (lookup_mem ei)).ex
          obtain ⟨b2, hb2, ⟨C', dx, ns', vs, g1, g2, z, q⟩, _⟩ := R1.at el
          cases Option.some.inj (hb'.symm.trans hb2)
          rw [k1] at g1; cases g1
          obtain ⟨u, eu, ru⟩ := q.get ey
          exact ⟨_, C, _, _, u, rfl, g2, k4, k5, zip_lookup_at k2 k3 eu, h1.here R1 ru⟩
        · exact h1.elim
      · exact h1.elim
    · exact h1.elim
  · exact h1.elim
end
end
end Y

/-! Y10: a def as a whole; more statements: op=, fields and items stored, methods of lists, texts put together, match. -/
namespace Y
open PySem PySem.Spec PyProof.Rows L2

/-- a def's body, run on its arguments: no exception may come out -/
def runF (np N : Nat) (m : SMm) : FM := fun ws st => if ws.length = np then match m (ws.map some ++ List.replicate (N - np) none) st with
  | .ok .nx _ st1 => .ok (.p .non) st1
  | .ok (.rt w) _ st1 => .ok w st1
  | _ => .no
  else .no
abbrev cxD (P : Program) (w : World) (K : PySem.W.Frag) (mg : Str → Option Value) (base : Heap) (N : List Str) (qual : Str) (scope : Scope) (f : Addr) (cd : Value) (A : Around) (outer : List Env) (s : Shared) (H : Hp) (E : XK) : Cx :=
  (cxOf CX0 P w K mg base N qual scope f cd A outer s H E).nox
section
variable {K : PySem.W.Frag} {cl : Cls} {X : Cx} {Wx : WX} {E0 : En} {ρ ρ' : List Addr} {G G' : Hp} {σ : Sg} {τ : L2.St} {st : List Cell} {H : Hp} {D : Ends}
theorem gx_of {P : Program} {w : World} {mg : Str → Option Value} {base : Heap} {N ps : List Str} {qual : Str} {scope : Scope} {f : Addr} {cd : Value} {A : Around} {outer : List Env} {s : Shared} {H : Hp} {E : XK} {k : Nat}
    (S : FnScope N ps scope) (hr : Room k (A.deeper (envOfC qual scope s.heap.objs.size f cd))) : GX K (cxD P w K mg base N qual scope f cd A outer s H E) :=
  ⟨rfl, rfl, S.nd, by have := hr.un; show (A.deeper _).units + 65 < cLine; omega, hr.hd⟩
theorem fn_end {P : Program} {w : World} {mg : Str → Option Value} {base : Heap} {N ps : List Str} {qual : Str} {body : List Stmt} {scope : Scope} {f : Addr} {cd : Value} {A : Around} {outer : List Env} {s : Shared} {H : Hp} {E E' : XK} {m : SMm} {vs : List V} {Q : VK} (S : FnScope N ps scope)
    (hb : SSs K cl (cxD P w K mg base N qual scope f cd A outer s H E) WF m body) (h : spF K cl (runF ps.length N.length m) vs H Q E') : TSs' (cxD P w K mg base N qual scope f cd A outer s H E) body { nx := fun _ H' => Q .non H', rt := Q } (L2.start N vs) H := by
  obtain ⟨ρ0, G0, st0, ws, R, r, a⟩ := h
  unfold runF at a
  split at a
  case isFalse => exact a.elim
  rename_i hl
  have lv : vs.length = ps.length := by rw [← r.length]; exact hl
  refine hb.run ⟨strip H, ρ0.length, G0⟩ ρ0 G0 (ws.map some ++ List.replicate (N.length - ps.length) none) st0 (L2.start N vs) H _ R ?_ ?_
  · unfold L2.start
    rw [lv]
    refine ⟨by rw [List.length_append, List.length_append, List.length_map, List.length_map, hl, lv, List.length_replicate, List.length_replicate], fun i w' e => ?_⟩
    rcases app_cut e with ⟨h1, h2⟩ | ⟨h1, h2⟩
    · rw [List.length_map] at h1
      rw [List.getElem?_map] at h2
      cases q : ws[i]? with
      | none => rw [q] at h2; cases h2
      | some u =>
        rw [q] at h2
        have h2 : some (some u) = some (some w') := h2
        cases h2
        obtain ⟨v, ev, rv⟩ := r.get q
        refine ⟨v, ?_, rv⟩
        rw [List.getElem?_append_left (by rw [List.length_map, lv, ← hl]; exact h1), List.getElem?_map, ev]; rfl
    · rw [List.getElem?_replicate] at h2
      split at h2 <;> cases h2
  · generalize m (ws.map some ++ List.replicate (N.length - ps.length) none) st0 = res at a ⊢
    cases res with
    | no => exact a.elim
    | exc x σ st => exact a.elim
    | ok fl σ st =>
      cases fl with
      | nx => exact fun ρ' G' H' τ' p s R' S' => a ρ' G' H' .non p s R' RP.non
      | rt u => exact fun ρ' G' H' τ' p s R' S' v rv => a ρ' G' H' v p s R' rv
      | bk => exact a.elim
      | ct => exact a.elim
theorem fn_ok {P : Program} {w : World} {mg : Str → Option Value} {base : Heap} {N ps : List Str} {x qual : Str} {params : Arguments} {body : List Stmt} {scope : Scope} {dvs : List V} {kws : List (Str × V)} {f : Addr} {fd : FuncData} {k : Nat} {m : SMm}
    (F : FunD K x qual params body scope dvs kws f fd) (S : FnScope N ps scope) (hb : ∀ (cd : Value) (A : Around) (outer : List Env) (s : Shared) (H : Hp) (E : XK), Room k (A.deeper (envOfC qual scope s.heap.objs.size f cd)) → SSs K cl (cxD P w K mg base N qual scope f cd A outer s H E) WF m body) :
    FnOk P w K mg base CX0 (k + 1) f fd ps (spF K cl (runF ps.length N.length m)) := by
  refine F.ok S (fun vs H Q E h => ?_) (fun cd A outer s H vs Q E hr h => ⟨TSs' (cxD P w K mg base N qual scope f cd A outer s H E) body, PSs.nox TSs'.pss, fn_end S (hb cd A outer s H E hr) h⟩)
  · obtain ⟨ρ0, G0, st0, ws, R, r, a⟩ := h
    unfold runF at a
    split at a
    · rename_i hl; rw [← r.length]; exact hl
    · exact a.elim
theorem fn_okC {P : Program} {w : World} {mg : Str → Option Value} {base : Heap} {N ps : List Str} {x qual : Str} {params : Arguments} {body : List Stmt} {scope : Scope} {dvs : List V} {kws : List (Str × V)} {p : Str × Option Str} {fd : FuncData} {k : Nat} {m : SMm}
    (F : FunD K x qual params body scope dvs kws (He.fAd K p) fd) (S : FnScope N ps scope) (hb : ∀ (A : Around) (outer : List Env) (s : Shared) (H : Hp) (E : XK), Room k (A.deeper (envOfC qual scope s.heap.objs.size (He.fAd K p) (.ref (He.codeOf K p)))) → SSs K cl (cxD P w K mg base N qual scope (He.fAd K p) (.ref (He.codeOf K p)) A outer s H E) WF m body) :
    FnOk P w K mg base CX0 (k + 1) (He.fAd K p) fd ps (spF K cl (runF ps.length N.length m)) := by
  obtain ⟨oc, od, dV, kV, doc, pm, an, cdv, ct, osl, rfl, lk, hcd, _, _⟩ := F.ex
  obtain ⟨c, rfl⟩ := He.codeIn_ref hcd
  rw [He.codeOf_eq lk rfl] at hb
  refine fn_of lk hcd S (fun vs H Q E h => ?_) fun A outer s H vs Q E hr h => ⟨TSs' (cxD P w K mg base N qual scope (He.fAd K p) (.ref c) A outer s H E) body, PSs.nox TSs'.pss, fn_end S (hb A outer s H E hr) h⟩
  obtain ⟨ρ0, G0, st0, ws, R, r, a⟩ := h
  unfold runF at a
  split at a
  · rename_i hl; rw [← r.length]; exact hl
  · exact a.elim

/-! ### what is never reached -/
def sNo : SMm := fun _ _ => .no
theorem ss_no {s : Stmt} : SS K cl X Wx sNo s := ⟨fun E0 ρ G σ st τ H D R S h => h.elim⟩

/-! ### name op= e -/
/-- an operation by values, with the new value stored -/
def VIp (K : PySem.W.Frag) (cl : Cls) (f : W → W → List Cell → Res W) (t : V → V → Hp → VK → Prop) : Prop := VOp K cl f t
def sAug (i : Nat) (f : W → W → List Cell → Res W) (m : EM) : SMm := fun σ st => match σ[i]? with
  | some (some x) => (m σ st).to σ fun y st1 => match f x y st1 with
    | .ok z st2 => .ok .nx (σ.set i (some z)) st2
    | _ => .no
  | _ => .no
theorem ss_aug {i : Nat} {x : Str} {op : Operator} {r : R2} {f : W → W → List Cell → Res W} {m : EM} {e : Expr} {pos pos' : Pos} (g : GX K X) (hi : X.N[i]? = some x) (hx : Loc X.env.scope x) (ho : OpR X (inplaceOp op) r) (hf : VOp K cl f r) (h : SE K cl X Wx m e)
    (hfn : X.fn x = true ∨ X.env.scope.names.lookup x = some .local) : SS K cl X Wx (sAug i f m) (.AugAssign (.Name x pos') op e pos) := by
  refine ⟨fun E0 ρ G σ st τ H D R S q => TS'.of (ps_aug (ti := r) g.hN hi hx T.pe ho hfn) ?_⟩
  unfold sAug at q
  split at q
  · rename_i w ew
    obtain ⟨v, ev, rv⟩ := S.2 i w ew
    refine ⟨v, ev, ?_⟩
    refine h.run E0 ρ G σ st τ H _ R S (AftS.seq S q fun y st1 ρ1 G1 H1 u e1 p1 s1 R1 u1 h1 => ?_)
    refine hf E0 ρ1 G1 st1 H1 w y v u _ (fun _ _ _ => False) R1 (RW.mono p1 s1 rv) u1 ?_
    generalize f w y st1 = res at h1 ⊢
    cases res with
    | no => exact h1.elim
    | exc x st => exact h1.elim
    | ok z st2 => exact fun ρ2 G2 H2 b p2 s2 R2 r2 => h1 ρ2 G2 H2 _ p2 s2 R2 ((S.mono (p1.trans p2) (s1.trans s2)).set r2 i)
  · exact q.elim
/-- += of ints, of texts -/
def vIadd (x y : W) (st : List Cell) : Res W := match x, y with
  | .p (.int i), .p (.int j) => .ok (.p (.int (i + j))) st
  | .p (.str i), .p (.str j) => if i.length + j.length ≤ LIM then .ok (.p (.str (i ++ j))) st else .no
  | _, _ => .no
def rIaddA : R2 := fun x y H Q => rI0 (fun i j => .int (i + j)) x y H Q ∨ ∃ i j, x = .str i ∧ y = .str j ∧ i.length + j.length ≤ sizeLine ∧ Q (.str (i ++ j)) H
theorem iop_addA : OpR X (inplaceOp .Add) rIaddA := iop_add.or iop_add_str
theorem vIadd_ok : VOp K cl vIadd rIaddA := by
  intro E0 ρ G st H x y v u Q Z R rx ry h
  unfold vIadd at h
  split at h
  · cases rx; cases ry
    exact .inl ⟨_, _, rfl, rfl, h.here R (RP.int _)⟩
  · cases rx; cases ry
    split at h
    · rename_i hl
      exact .inr ⟨_, _, rfl, rfl, lim_le hl, h.here R (RP.str _)⟩
    · exact h.elim
  · exact h.elim
theorem vSub_ok : VOp K cl vSub (rI0 fun i j => .int (i - j)) := vI2_ok0 fun i j G => RP.int _

/-! ### methods of built-ins, by values -/
def tyW (st : List Cell) : W → Option String
  | .p (.str _) => some "str"
  | .p (.lst _) => some "list"
  | .r i => match st[i]? with
    | some (.lst _) => some "list"
    | some (.dk _ _) => some "dict"
    | _ => none
  | .p (.dk _ _) => some "dict"
  | _ => none
theorem tyW_ok {T : String} {w : W} {v : V} (R : (bs K cl E0).Rel ρ G st H) (r : RW K cl ρ G w v) (e : tyW st w = some T) : tyV K T v H := by
  cases w with
  | p x =>
    cases x with
    | str z => cases e; cases r; rfl
    | lst l =>
      cases e
      cases r with
      | lst h q => exact .inl ⟨rfl, _, .inl (.inl (R.sub _ _ h))⟩
    | dk ks l =>
      cases e
      cases r with
      | dk h z q => exact .inr (.inr (.inl ⟨rfl, .inl ⟨_, R.sub _ _ h⟩⟩))
    | _ => cases e
  | r i =>
    obtain ⟨a, ha, rfl⟩ := r
    have e : (match st[i]? with | some (.lst _) => some "list" | some (.dk _ _) => some "dict" | _ => none) = some T := e
    split at e
    · rename_i l el
      cases e
      obtain ⟨b, hb, ⟨vs, h1, h2⟩, _⟩ := R.at el
      cases Option.some.inj (ha.symm.trans hb)
      exact .inl ⟨rfl, vs, .inl (.inl h1)⟩
    · rename_i ks l el
      cases e
      obtain ⟨b, hb, ⟨vs, h1, z, h2⟩, _⟩ := R.at el
      cases Option.some.inj (ha.symm.trans hb)
      exact .inr (.inr (.inl ⟨rfl, .inl ⟨_, h1⟩⟩))
    · cases e
def VMt (K : PySem.W.Frag) (cl : Cls) (f : W → List W → List Cell → Res W) (r : V → List V → Hp → VK → Prop) : Prop :=
  ∀ E0 ρ G st H w v ws vs Q Z, (bs K cl E0).Rel ρ G st H → RW K cl ρ G w v → RWs K cl ρ G ws vs → Aft (bs K cl E0) (bs K cl E0).RW ρ G (f w ws st) Q Z → r v vs H Q
def mBm (T : String) (f : W → List W → List Cell → Res W) (o : EM) (a : AM) : EM := fun σ st => (o σ st).bind fun w st1 => if tyW st1 w = some T then (a σ st1).bind fun ws st2 => f w ws st2 else .no
section
variable {Ty id : String} {name : Str} {r : V → List V → Hp → VK → Prop} {f : W → List W → List Cell → Res W} {o : EM} {a : AM} {eo e : Expr} {es : List Expr} {apos cpos : Pos}
theorem se_bm (g : GX K X) (pa : PlainAttrs Ty) (slot : Slot Ty name id) (hty : typeOf (.builtin id) = pure (.type "method_descriptor")) (hm : MtR X id r) (hf : VMt K cl f r) (ho : SE K cl X Wx o eo) (ha : SA K cl X Wx a (e :: es))
    (hbase : attributeBase eo name X.env (eval eo X.env) = eval eo X.env := by rfl)
    (hfew : ((backTo cpos (starEach (e :: es) X.env)).all (fun x => !x.1) && (backToKw cpos (keywordEach [] X.env)).all (fun x => x.1.isSome)
      && decide ((e :: es).length + ([] : List Keyword).length + (if ([] : List Keyword).isEmpty then 0 else 1) < 30)) = true := by rfl)
    (hline : (apos.endLine == cpos.line) = true := by rfl) (hs : starEach (e :: es) X.env = (false, eval e X.env) :: starEach es X.env := by rfl) (hplain : (backTo cpos (starEach es X.env)).any (·.1) = false := by rfl) :
    SE K cl X Wx (mBm Ty f o a) (.Call (.Attribute eo name apos) (e :: es) [] cpos) := by
  obtain ⟨hK, _⟩ := g
  subst hK
  refine ⟨fun E0 ρ G σ st τ H Q R S h => T.of (pe_bm pa slot hty hm T.pe TA'.pa hbase hfew hline hs hplain) ?_⟩
  refine ho.run E0 ρ G σ st τ H _ R S (Aft.seq h fun w st1 ρ1 G1 H1 v e1 p1 s1 R1 u1 h1 => ?_)
  split at h1
  case isFalse => exact h1.elim
  rename_i et
  refine ⟨tyW_ok R1 u1 et, ?_⟩
  refine ha.run E0 ρ1 G1 σ st1 τ H1 _ R1 (S.mono p1 s1) (Aft.seq h1 fun ws st2 ρ2 G2 H2 us e2 p2 s2 R2 u2 h2 => ?_)
  exact hf E0 ρ2 G2 st2 H2 w v ws us _ _ R2 (RW.mono p2 s2 u1) u2 h2
theorem se_bm0 (g : GX K X) (pa : PlainAttrs Ty) (slot : Slot Ty name id) (hty : typeOf (.builtin id) = pure (.type "method_descriptor")) (hm : MtR X id r) (hf : VMt K cl f r) (ho : SE K cl X Wx o eo)
    (hbase : attributeBase eo name X.env (eval eo X.env) = eval eo X.env := by rfl) (hline : (apos.endLine == cpos.line) = true := by rfl) :
    SE K cl X Wx (mBm Ty f o mNil) (.Call (.Attribute eo name apos) [] [] cpos) := by
  obtain ⟨hK, _⟩ := g
  subst hK
  refine ⟨fun E0 ρ G σ st τ H Q R S h => T.of (pe_bm0 pa slot hty hm T.pe hbase hline) ?_⟩
  refine ho.run E0 ρ G σ st τ H _ R S (Aft.seq h fun w st1 ρ1 G1 H1 v e1 p1 s1 R1 u1 h1 => ?_)
  split at h1
  case isFalse => exact h1.elim
  rename_i et
  exact ⟨tyW_ok R1 u1 et, hf E0 ρ1 G1 st1 H1 w v [] [] _ _ R1 u1 .nil h1⟩
end
/-- the list cell of a reference -/
theorem cell_at {i : Nat} {l : List W} {v : V} (R : (bs K cl E0).Rel ρ G st H) (r : RW K cl ρ G (.r i) v) (e : st[i]? = some (.lst l)) : ∃ a vs, v = .ref a ∧ ρ[i]? = some a ∧ H a = some (.lst vs) ∧ RWs K cl ρ G l vs := by
  obtain ⟨a, ha, rfl⟩ := r
  obtain ⟨b, hb, ⟨vs, h1, h2⟩, _⟩ := R.at e
  cases Option.some.inj (ha.symm.trans hb)
  exact ⟨a, vs, rfl, ha, h1, h2⟩
/-- a list cell written anew -/
theorem Aft.wrote {i : Nat} {l l2 : List W} {a : Addr} {vs2 : List V} {Q : VK} {Z : ZX} (h : Aft (bs K cl E0) (bs K cl E0).RW ρ G (.ok (.p .non) (st.set i (.lst l2))) Q Z) (R : (bs K cl E0).Rel ρ G st H) (e : st[i]? = some (.lst l)) (ha : ρ[i]? = some a) (r : RWs K cl ρ G l2 vs2) : Q .non (upd H a (.lst vs2)) :=
  h.here (Rel.write (o := .lst vs2) R e (fun z => by cases z) (fun z => by cases z) ha ⟨vs2, upd_same, r⟩) RP.non
def vAppend (w : W) (ws : List W) (st : List Cell) : Res W := match w, ws with
  | .r i, [x] => match st[i]? with
    | some (.lst l) => if l.length < LIM then .ok (.p .non) (st.set i (.lst (l ++ [x]))) else .no
    | _ => .no
  | _, _ => .no
theorem vAppend_ok : VMt K cl vAppend rAppend := by
  intro E0 ρ G st H w v ws vs Q Z R r rs h
  unfold vAppend at h
  split at h
  · rename_i i x
    obtain ⟨u, rfl, ru⟩ := rs.one
    split at h
    · rename_i l el
      obtain ⟨a, us, rfl, ha, h1, h2⟩ := cell_at R r el
      split at h
      · rename_i hl
        exact ⟨a, us, u, rfl, rfl, h1, by rw [← h2.length]; exact lim_lt hl, h.wrote R el ha (h2.append (.cons ru .nil))⟩
      · exact h.elim
    · exact h.elim
  · exact h.elim
def vInsert (w : W) (ws : List W) (st : List Cell) : Res W := match w, ws with
  | .r i, [.p (.int k), x] => match st[i]? with
    | some (.lst l) => if l.length < LIM ∧ 0 ≤ k ∧ k ≤ LIM then .ok (.p .non) (st.set i (.lst (l.take k.toNat ++ [x] ++ l.drop k.toNat))) else .no
    | _ => .no
  | _, _ => .no
def rInsert : V → List V → Hp → VK → Prop := fun x vs H Q => ∃ (l : Addr) (xs : List V) (i : Int) (y : V), x = .ref l ∧ vs = [.int i, y] ∧ H l = some (.lst xs) ∧ xs.length < sizeLine ∧ 0 ≤ i ∧ i < 2 ^ 63 ∧
    Q .non (upd H l (.lst (xs.take i.toNat ++ [y] ++ xs.drop i.toNat)))
theorem vInsert_ok : VMt K cl vInsert rInsert := by
  intro E0 ρ G st H w v ws vs Q Z R r rs h
  unfold vInsert at h
  split at h
  · rename_i i k x
    obtain ⟨u0, u, rfl, ru0, ru⟩ := rs.two
    cases ru0
    split at h
    · rename_i l el
      obtain ⟨a, us, rfl, ha, h1, h2⟩ := cell_at R r el
      split at h
      · rename_i hl
        have hlim : ((LIM : Nat) : Int) = 1000000 := rfl
        exact ⟨a, us, k, u, rfl, rfl, h1, by rw [← h2.length]; exact lim_lt hl.1, hl.2.1, by omega, h.wrote R el ha (((h2.take _).append (.cons ru .nil)).append (h2.drop _))⟩
      · exact h.elim
    · exact h.elim
  · exact h.elim
def vClear (w : W) (ws : List W) (st : List Cell) : Res W := match w, ws with
  | .r i, [] => match st[i]? with
    | some (.lst l) => .ok (.p .non) (st.set i (.lst []))
    | _ => .no
  | .p (.lst _), [] => .no
  | _, _ => .no
theorem vClear_ok : VMt K cl vClear rClear := by
  intro E0 ρ G st H w v ws vs Q Z R r rs h
  unfold vClear at h
  split at h
  · rename_i i
    cases rs
    split at h
    · rename_i l el
      obtain ⟨a, us, rfl, ha, h1, h2⟩ := cell_at R r el
      exact ⟨a, us, rfl, rfl, h1, h.wrote R el ha .nil⟩
    · exact h.elim
  · exact h.elim
  · exact h.elim

/-! ### o[i] = v, a list -/
def sSetIx (o ix m : EM) : SMm := fun σ st => (m σ st).to σ fun x st1 => (o σ st1).to σ fun w st2 => (ix σ st2).to σ fun k st3 => match w, k with
  | .r i, .p (.int n) => match st3[i]? with
    | some (.lst l) => match L2.ixN l.length n with
      | some j => .ok .nx σ (st3.set i (.lst (l.set j x)))
      | none => .no
    | _ => .no
  | _, _ => .no
theorem ss_setIx {o ix m : EM} {eo ei e : Expr} {pos pos' : Pos} (g : GX K X) (ho : SE K cl X Wx o eo) (hi : SE K cl X Wx ix ei) (h : SE K cl X Wx m e)
    (ha : ∀ v, PySem.assign (.Subscript eo ei pos') X.env v = (do
      let ov ← holding [v] (eval eo X.env)
      let iv ← holding [v, ov] (eval ei X.env)
      standAt pos'
      holding [v, ov, iv] (setItem ov iv v)
      release [v, ov, iv] []) := by intro _; rfl)
    (hs : swapsWithSole [.Subscript eo ei pos'] e pos.line X.env = pure false := by rfl) (hw : swappedStores [.Subscript eo ei pos'] e X.env = pure none := by rfl) (h1 : (assignEach [.Subscript eo ei pos'] X.env).map (·.2) = [PySem.assign (.Subscript eo ei pos') X.env] := by rfl) :
    SS K cl X Wx (sSetIx o ix m) (.Assign [.Subscript eo ei pos'] e pos) := by
  refine ⟨fun E0 ρ G σ st τ H D R S q => TS'.of (ps_asg T.pe (pg_sub T.pe T.pe set_list ha) hs hw h1) ?_⟩
  refine h.run E0 ρ G σ st τ H _ R S (AftS.seq S q fun x st1 ρ1 G1 H1 v e1 p1 s1 R1 u1 h1 => ?_)
  have S1 := RS.mono p1 s1 S
  refine ho.run E0 ρ1 G1 σ st1 τ H1 _ R1 S1 (AftS.seq S1 h1 fun w st2 ρ2 G2 H2 ov e2 p2 s2 R2 u2 h2 => ?_)
  have S2 := RS.mono p2 s2 S1
  refine hi.run E0 ρ2 G2 σ st2 τ H2 _ R2 S2 (AftS.seq S2 h2 fun k st3 ρ3 G3 H3 iv e3 p3 s3 R3 u3 h3 => ?_)
  split at h3
  · rename_i i n
    split at h3
    · rename_i l el
      split at h3
      · rename_i j ej
        obtain ⟨a, us, rfl, ha, g1, g2⟩ := cell_at R3 (RW.mono p3 s3 u2) el
        cases u3
        refine ⟨a, us, n, j, rfl, rfl, g1, by rw [← g2.length]; exact ej, ?_⟩
        exact AftS.nx h3 (Rel.write (o := .lst (us.set j v)) R3 el (fun z => by cases z) (fun z => by cases z) ha ⟨_, upd_same, RWs.set (RW.mono (p2.trans p3) (s2.trans s3) u1) j g2⟩) (RS.mono p3 s3 S2)
      · exact h3.elim
    · exact h3.elim
  · exact h3.elim

/-! ### o.f = v, an instance that is being made (a cell) -/
theorem putF_zip : ∀ {ns : List Str} {vs : List V} {i : Nat} {fn : Str} {v : V}, ns.Nodup → ns[i]? = some fn → i ≤ vs.length → vs.length ≤ ns.length → putF fn v (ns.zip vs) = ns.zip (if i < vs.length then vs.set i v else vs ++ [v])
  | [], _, _, _, _, _, h, _, _ => by simp at h
  | n :: ns, [], i, fn, v, nd, h, hi, _ => by
    have hi : i = 0 := by simpa using hi
    subst hi
    simp at h
    subst h
    simp [putF]
  | n :: ns, u :: vs, 0, fn, v, nd, h, hi, hl => by
    simp at h
    subst h
    simp [putF]
  | n :: ns, u :: vs, i + 1, fn, v, nd, h, hi, hl => by
    have h : ns[i]? = some fn := by simpa using h
    have ne : n ≠ fn := fun e => (List.nodup_cons.mp nd).1 (by rw [e]; exact List.mem_of_getElem? h)
    have ih := putF_zip (v := v) (List.nodup_cons.mp nd).2 h (by simpa using hi) (by simpa using hl)
    rw [List.zip_cons_cons]
    unfold putF
    rw [if_neg ne, ih]
    by_cases hc : i < vs.length
    · rw [if_pos hc, if_pos (by simpa using hc)]; rfl
    · rw [if_neg hc, if_neg (by simpa using hc)]; rfl
def sSetF (cs : List (Nat × Nat)) (o m : EM) : SMm := fun σ st => (m σ st).to σ fun x st1 => (o σ st1).to σ fun w st2 => match w with
  | .r j => match st2[j]? with
    | some (.ins c l) => match cs.lookup c with
      | some i => if i ≤ l.length then .ok .nx σ (st2.set j (.ins c (if i < l.length then l.set i x else l ++ [x]))) else .no
      | none => .no
    | _ => .no
  | _ => .no
theorem ss_setF {cs : List (Nat × Nat)} {o m : EM} {eo e : Expr} {fn : Str} {pos pos' : Pos} (g : GX K X) (hf : ∀ q ∈ cs, FldAt K cl fn q.1 q.2) (hsm : ∀ (c : Nat) (C : Addr) (ns : List Str), cl[c]? = some (C, ns) → ns.length < 1000) (ho : SE K cl X Wx o eo) (h : SE K cl X Wx m e) (hs : swapsWith e (some (.Attribute eo fn pos')) pos.line X.env = pure false) :
    SS K cl X Wx (sSetF cs o m) (.Assign [.Attribute eo fn pos'] e pos) := by
  obtain ⟨hK, _⟩ := g
  subst hK
  refine ⟨fun E0 ρ G σ st τ H D R S q => TS'.of (ps_fld T.pe T.pe hs) ?_⟩
  refine h.run E0 ρ G σ st τ H _ R S (AftS.seq S q fun x st1 ρ1 G1 H1 v e1 p1 s1 R1 u1 h1 => ?_)
  have S1 := RS.mono p1 s1 S
  refine ho.run E0 ρ1 G1 σ st1 τ H1 _ R1 S1 (AftS.seq S1 h1 fun w st2 ρ2 G2 H2 ov e2 p2 s2 R2 u2 h2 => ?_)
  split at h2
  · rename_i j
    obtain ⟨b, hb, rfl⟩ := u2
    split at h2
    · rename_i c l el
      split at h2
      · rename_i i ei
        split at h2
        · rename_i hi
          obtain ⟨C, ns, k1, k2, k3, k4, k5⟩ := (hf (c, i) (lookup_mem ei)).ex
          obtain ⟨b2, hb2, ⟨C', dx, ns', vs, g1, g2, z, q2⟩, _⟩ := R2.at el
          cases Option.some.inj (hb.symm.trans hb2)
          rw [k1] at g1; cases g1
          have il : i < ns.length := (List.getElem?_eq_some_iff.mp k3).1
          have hsz := hsm c C ns k1
          refine ⟨b, C, dx, _, rfl, g2, k4, k5, by rw [List.length_zip]; omega, ?_⟩
          rw [putF_zip k2 k3 (by rw [← q2.length]; exact hi) z]
          have ll := q2.length
          refine AftS.nx h2 (Rel.write (o := .ins C dx (ns.zip (if i < vs.length then vs.set i v else vs ++ [v]))) R2 el (fun z => by cases z) (fun z => by cases z) hb ⟨C, dx, ns, _, k1, upd_same, ?_, ?_⟩) (RS.mono p2 s2 S1)
          · split
            · rw [List.length_set]; exact z
            · rw [List.length_append, List.length_singleton]; omega
          · rw [← ll]
            split
            · exact RWs.set (RW.mono p2 s2 u1) i q2
            · exact q2.append (.cons (RW.mono p2 s2 u1) .nil)
        · exact h2.elim
      · exact h2.elim
    · exact h2.elim
  · exact h2.elim

/-! ### f-strings -/
def mFmt (a : EM) : EM := fun σ st => (a σ st).bind fun w st1 => match w with
  | .p (.str y) => if y.length ≤ LIM then .ok (.p (.str y)) st1 else .no
  | .p (.int i) => if i.natAbs.log2 < 1920 then .ok (.p (.str (toString i))) st1 else .no
  | _ => .no
theorem se_fmt {a : EM} {e : Expr} {pos : Pos} (ha : SE K cl X Wx a e) : SE K cl X Wx (mFmt a) (.FormattedValue e (-1) none pos) := by
  refine ⟨fun E0 ρ G σ st τ H Q R S h => T.of (pe_fmt T.pe) ?_⟩
  refine ha.run E0 ρ G σ st τ H _ R S (Aft.seq h fun w st1 ρ1 G1 H1 v e1 p1 s1 R1 u1 h1 => ?_)
  split at h1
  · cases u1
    split at h1
    · rename_i hl
      exact .inl ⟨_, rfl, lim_le hl, h1.here R1 (RP.str _)⟩
    · exact h1.elim
  · cases u1
    split at h1
    · rename_i hl
      exact .inr ⟨_, rfl, hl, h1.here R1 (RP.str _)⟩
    · exact h1.elim
  · exact h1.elim
def jsF : List EM → Str → EM
  | [], acc, _, st => .ok (.p (.str acc)) st
  | m :: ms, acc, σ, st => (m σ st).bind fun w st1 => match w with
    | .p (.str y) => if (acc ++ y).length ≤ LIM then jsF ms (acc ++ y) σ st1 else .no
    | _ => .no
inductive SJ (K : PySem.W.Frag) (cl : Cls) (X : Cx) (Wx : WX) : List EM → List Expr → Prop where
  | nil : SJ K cl X Wx [] []
  | cons {m : EM} {e : Expr} {ms : List EM} {es : List Expr} (h : SE K cl X Wx m e) (r : SJ K cl X Wx ms es) : SJ K cl X Wx (m :: ms) (e :: es)
theorem SJ.pj {ms : List EM} {es : List Expr} (h : SJ K cl X Wx ms es) : PJ X es (es.map (T X)) := by
  induction h with
  | nil => exact .nil
  | cons h r ih => exact .cons T.pe ih
theorem SJ.js {ms : List EM} {es : List Expr} (h : SJ K cl X Wx ms es) : ∀ {acc : Str} {E0 : En} {ρ : List Addr} {G : Hp} {st : List Cell} {H : Hp} {Q : VK}, (bs K cl E0).Rel ρ G st H → RS K cl ρ G σ τ →
    Aft (bs K cl E0) (bs K cl E0).RW ρ G (jsF ms acc σ st) Q (fun c d H' => Wx c d τ H') → tJs (es.map (T X)) acc τ H fun out H1 => Q (.str out) H1 := by
  induction h with
  | nil => intro acc E0 ρ G st H Q R S q; exact Aft.here (b := V.str acc) q R (RP.str _)
  | cons h r ih =>
    intro acc E0 ρ G st H Q R S q
    refine h.run E0 ρ G σ st τ H _ R S (Aft.seq q fun w st1 ρ1 G1 H1 v e1 p1 s1 R1 u1 h1 => ?_)
    split at h1
    · cases u1
      split at h1
      · rename_i hl
        exact ⟨_, rfl, lim_le hl, ih R1 (S.mono p1 s1) h1⟩
      · exact h1.elim
    · exact h1.elim
theorem se_js {m1 m2 : EM} {ms : List EM} {e1 e2 : Expr} {es : List Expr} {pos : Pos} (h : SJ K cl X Wx (m1 :: m2 :: ms) (e1 :: e2 :: es)) : SE K cl X Wx (jsF (m1 :: m2 :: ms) Str.empty) (.JoinedStr (e1 :: e2 :: es) pos) :=
  ⟨fun E0 ρ G σ st τ H Q R S q => T.of (pe_joined h.pj) (h.js R S q)⟩
theorem se_js1 {m : EM} {e : Expr} {pos : Pos} (h : SE K cl X Wx m e) : SE K cl X Wx m (.JoinedStr [e] pos) := ⟨fun E0 ρ G σ st τ H Q R S q => T.of (pe_joined1 T.pe) (h.run E0 ρ G σ st τ H Q R S q)⟩
end
end Y

/-! Y11: isinstance, match of texts, a, *b = c, dicts of the module, displays of dicts. -/
namespace Y
open PySem PySem.Spec PyProof.Rows L2
section
variable {K : PySem.W.Frag} {cl : Cls} {X : Cx} {Wx : WX} {E0 : En} {ρ ρ' : List Addr} {G G' : Hp} {σ : Sg} {τ : L2.St} {st : List Cell} {H : Hp} {D : Ends}

/-! ### isinstance(x, T), T a built-in -/
def tyName (st : List Cell) : W → Option String
  | .p .non => some "NoneType"
  | .p (.bl _) => some "bool"
  | .p (.int _) => some "int"
  | .p (.str _) => some "str"
  | .p (.tup _) => some "tuple"
  | .p (.lst _) => some "list"
  | .p (.dk _ _) => some "dict"
  | .r i => match st[i]? with
    | some (.lst _) => some "list"
    | some (.dk _ _) => some "dict"
    | _ => none
  | _ => none
def tyNames : List String := ["NoneType", "bool", "int", "str", "tuple", "list", "dict"]
def kitTab (t T : String) : Bool := decide (t = T) || (decide (t = "bool") && decide (T = "int"))
theorem kit_ok (K : PySem.W.Frag) {t T : String} (ht : t ∈ tyNames) (hT : T ∈ tyNames) : PySem.W.kitOne K (.type t) (.type T) = some (kitTab t T) := by
  simp only [tyNames, List.mem_cons, List.not_mem_nil, or_false] at ht hT
  rcases ht with rfl | rfl | rfl | rfl | rfl | rfl | rfl <;> rcases hT with rfl | rfl | rfl | rfl | rfl | rfl | rfl <;> kernel_rfl
theorem tyx_tup {a : Addr} {vs : List V} (h : SqT K H a vs) : TyX K H (.ref a) (.type "tuple") := by
  rcases h with (h | ⟨o, h⟩) | ⟨o, its, n, h1, h2, _⟩
  · exact .base (.tup h)
  · exact .fTuple h
  · exact .kTuple h1 h2
theorem tyName_ok {w : W} {v : V} {t : String} (R : (bs K cl E0).Rel ρ G st H) (r : RW K cl ρ G w v) (e : tyName st w = some t) : TyX K H v (.type t) ∧ t ∈ tyNames := by
  cases w with
  | p x =>
    cases r with
    | non => cases e; exact ⟨.base .non, by decide⟩
    | bl b => cases e; exact ⟨.base (.bl b), by decide⟩
    | int i => cases e; exact ⟨.base (.int i), by decide⟩
    | str z => cases e; exact ⟨.base (.str z), by decide⟩
    | tup h q => cases e; exact ⟨tyx_tup (R.sub.sqT h), by decide⟩
    | lst h q => cases e; exact ⟨.base (.lst (R.sub _ _ h)), by decide⟩
    | dk h z q => cases e; exact ⟨.base (.dK (R.sub _ _ h)), by decide⟩
    | scr h => cases e
    | obj c h z q => cases e
    | exn c x h d z q => cases e
  | r i =>
    obtain ⟨a, ha, rfl⟩ := r
    have e : (match st[i]? with | some (.lst _) => some "list" | some (.dk _ _) => some "dict" | _ => none) = some t := e
    split at e
    · rename_i l el
      cases e
      obtain ⟨b, hb, ⟨vs, h1, h2⟩, _⟩ := R.at el
      cases Option.some.inj (ha.symm.trans hb)
      exact ⟨.base (.lst h1), by decide⟩
    · rename_i ks l el
      cases e
      obtain ⟨b, hb, ⟨vs, h1, z, h2⟩, _⟩ := R.at el
      cases Option.some.inj (ha.symm.trans hb)
      exact ⟨.base (.dK h1), by decide⟩
    · cases e
def mIsi (T : String) (a : EM) : EM := fun σ st => (a σ st).bind fun w st1 => match tyName st1 w with
  | some t => .ok (.p (.bl (kitTab t T))) st1
  | none => .no
theorem se_isi {Ty : String} {x : Str} {a : EM} {e : Expr} {p q pos : Pos} (g : GX K X) (hT : Ty ∈ tyNames) (hg : Gl X "isinstance") (hm : X.mg "isinstance" = none) (hgx : Gl X x) (hmx : X.mg x = none) (hv : bootBuiltins x = some (.type Ty)) (hn : x ≠ "__name__") (hdb : (x == ("__debug__" : Str)) = false)
    (ha : SE K cl X Wx a e) (hs : starEach [e, .Name x q] X.env = (false, eval e X.env) :: starEach [.Name x q] X.env := by rfl) (hs2 : starEach [.Name x q] X.env = (false, eval (.Name x q) X.env) :: starEach [] X.env := by rfl) (hpl : (backTo pos (starEach [.Name x q] X.env)).any (·.1) = false := by rfl) :
    SE K cl X Wx (mIsi Ty a) (.Call (.Name "isinstance" p) [e, .Name x q] [] pos) := by
  obtain ⟨hK, _⟩ := g
  subst hK
  refine ⟨fun E0 ρ G σ st τ H Q R S h => T.of (pe_callB call_isi hg hm (by decide +kernel) (pa_cons T.pe (pa_cons (pe_bltn (v := .ty Ty) hgx hmx hv rfl hn hdb) pa_nil hs2) hs) (by decide +kernel) (by decide +kernel) hs hpl) ?_⟩
  refine ha.run E0 ρ G σ st τ H _ R S (Aft.seq h fun w st1 ρ1 G1 H1 v e1 p1 s1 R1 u1 h1 => ?_)
  split at h1
  · rename_i t et
    obtain ⟨t1, t2⟩ := tyName_ok R1 u1 et
    exact ⟨v, .ty Ty, _, _, kitTab t Ty, rfl, .ty Ty, t1, kit_ok _ t2 hT, h1.here R1 (RP.bl _)⟩
  · exact h1.elim

/-! ### match of a text against texts -/
def mtF : List (Str × SMm) → Str → SMm
  | [], _ => sNx
  | (z, b) :: r, y => fun σ st => if y = z then b σ st else mtF r y σ st
def sMatch (m : EM) (cs : List (Str × SMm)) : SMm := fun σ st => (m σ st).to σ fun w st1 => match w with
  | .p (.str y) => mtF cs y σ st1
  | _ => .no
inductive SMc (K : PySem.W.Frag) (cl : Cls) (X : Cx) (Wx : WX) : List (Str × SMm) → List MatchCase → Prop where
  | nil : SMc K cl X Wx [] []
  | cons {z : Str} {b : SMm} {cs : List (Str × SMm)} {body : List Stmt} {rest : List MatchCase} {j : Nat} {p pos : Pos} (h : SSs K cl X Wx b body) (r : SMc K cl X Wx cs rest) : SMc K cl X Wx ((z, b) :: cs) (⟨.MatchValue (.Constant (.str z) j p) pos, none, body⟩ :: rest)
theorem SMc.ok (g : GX K X) {cs : List (Str × SMm)} {mc : List MatchCase} (h : SMc K cl X Wx cs mc) : ∀ {E0 : En} {ρ : List Addr} {G : Hp} {σ : Sg} {st : List Cell} {τ : L2.St} {H : Hp} {D : Ends} {y : Str} {pins : List (Addr × Obj)} {s : Shared} {v : Value} {fst : Bool}, (bs K cl E0).Rel ρ G st H → RS K cl ρ G σ τ →
    AftS (bs K cl E0) ρ G (mtF cs y σ st) D Wx → Inv X pins τ H s → RelV (.str y) v → wpAny (model X.prog X.w) X.A (matchCases mc X.env v fst) (SP X pins D) X.xe s := by
  induction h with
  | nil => intro E0 ρ G σ st τ H D y pins s v fst R S q I rv; exact wpAny_matchCases_nil ⟨τ, H, I, AftS.nx q R S⟩
  | @cons z b cs body rest j p pos h r ih =>
    intro E0 ρ G σ st τ H D y pins s v fst R S q I rv
    refine wpAny_matchCases_cons (wpAny_matchPattern_Value ?_)
    refine thn (pe_str.run pins s τ H (fun x H1 => x = .str z ∧ H1 = H) I ⟨rfl, rfl⟩) fun u s1 ⟨x, H1, I1, ru, ex, eH⟩ => ?_
    subst ex eH
    refine thn (op_eq pins s1 τ H1 (.str y) (.str z) v u (fun x H2 => x = .bl (decide (V.str y = V.str z)) ∧ H2 = H1) I1 rv ru ⟨rfl, rfl, rfl⟩) fun c s2 ⟨x, H2, I2, rc, ex, eH⟩ => ?_
    subst ex eH
    cases rc
    refine wpAny_truthy_bool ?_
    have q : AftS (bs K cl E0) ρ G (if y = z then b σ st else mtF cs y σ st) D Wx := q
    by_cases hz : y = z
    · subst hz
      have e1 : decide (V.str y = V.str y) = true := by simp
      rw [e1, if_pos rfl]
      rw [if_pos rfl] at q
      show wpAny _ X.A (assignInOrder [] []) _ _ _
      exact assignInOrder_nil (h.run E0 ρ G σ st τ H2 D R S q pins s2 I2)
    · have e1 : decide (V.str y = V.str z) = false := by simp [hz]
      rw [e1, if_neg Bool.false_ne_true]
      rw [if_neg hz] at q
      exact ih R S q I2 rv
theorem ss_match {m : EM} {cs : List (Str × SMm)} {mc : List MatchCase} {e : Expr} {pos : Pos} (g : GX K X) (h : SE K cl X Wx m e) (hc : SMc K cl X Wx cs mc) : SS K cl X Wx (sMatch m cs) (.Match e mc pos) := by
  refine ⟨fun E0 ρ G σ st τ H D R S q pins s I => wpAny_Match ?_⟩
  refine thn (h.run E0 ρ G σ st τ H (fun x H1 => ∃ y ρ1 G1 st1, x = .str y ∧ (bs K cl E0).Rel ρ1 G1 st1 H1 ∧ RS K cl ρ1 G1 σ τ ∧ AftS (bs K cl E0) ρ1 G1 (mtF cs y σ st1) D Wx) R S (AftS.seq S q fun w st1 ρ1 G1 H1 v e1 p1 s1 R1 u1 h1 => ?_) pins s I) fun v s1 ⟨x, H1, I1, rv, y, ρ1, G1, st1, ex, R1, S1, q1⟩ => ?_
  · split at h1
    · cases u1
      exact ⟨_, ρ1, G1, st1, rfl, R1, S.mono p1 s1, h1⟩
    · exact h1.elim
  · subst ex
    exact hc.ok g R1 S1 q1 I1 rv

/-! ### a, *b = c -/
theorem star_tup {prog : Program} {w : World} {A : Around} {E : Value → Shared → Prop} {s : Shared} {l : Addr} {x : Value} {its : List Value} {Q : List Value → Shared → Prop} (hl : IsTup s.heap l (x :: its).toArray) (hh : A.handled = none) (hz : its.length < 16384)
    (h : ∀ (h' : Heap) (tk : Nat), (∀ b o, s.heap.get? b = some o → h'.get? b = some o) → Q [x, .ref h'.objs.size] { s with heap := h'.push { cls := .type "list", data := .seq its.toArray }, toks := tk }) :
    wpAny (model prog w) A (unpackItems (.ref l) 2 (some 1)) Q E s := by
  have hlt : l ≠ s.heap.objs.size := by obtain ⟨o, ho, _⟩ := hl; exact Nat.ne_of_lt (Heap.lt_size ho)
  unfold unpackItems
  refine wpAny_bind ?_
  unfold notIterableAtAll
  refine wpAny_bind (wpAny_specialOf hl.typeIs slot_tuple_iter.lookup (wpAny_pure ?_))
  simp only [Bool.false_eq_true, if_false]
  refine wpAny_bind (wpAny_holding (iter_tuple hl (wpAny_bind (wpAny_holding (draw_tuple hlt 1 0 _ _ ⟨_, Heap.get?_push_size _ rfl, rfl, rfl⟩ (hl.push _) (by simp) fun h₁ hit₁ hs₁ => ?_)))))
  have hl₁ : IsTup h₁ l (x :: its).toArray := (hl.push _).extBut hs₁.extBut hlt
  obtain ⟨oi, hoi, _⟩ := id hit₁
  obtain ⟨ol, hol, _⟩ := id hl₁
  simp only [List.drop_zero, List.take_succ_cons, List.take_zero, List.length_cons, List.length_nil, Nat.zero_add, Nat.lt_irrefl, if_false]
  refine wpAny_bind (wpAny_holding (PySem.W.kun_collect (s := { s with heap := h₁ }) (T := "tuple_iterator") (.inr (.inr (.inr rfl))) (Walks.tuple (A := A.in1) hh s.heap.objs.size l hlt (x :: its).toArray) (fun j u st => st.1.typeIs) (k := 1) (by simp) ⟨hit₁, hl₁⟩ (Heap.lt_size hoi) (Heap.lt_size hol) (fun h₂ tk hk => ?_) (by rw [sizeLine_eq]; simp; omega)))
  have e1 : (x :: its).toArray.toList.drop 1 = its := rfl
  rw [e1]
  simp only [Nat.sub_self, Nat.not_lt_zero, if_false, Nat.sub_zero, List.take_length, List.drop_length, List.append_nil]
  have he : ∀ b o, s.heap.get? b = some o → h₂.get? b = some o := fun b o e => hk b o (Nat.ne_of_lt (Heap.lt_size e)) (hs₁.extBut b o (Nat.ne_of_lt (Heap.lt_size e)) (Heap.get?_push_of_some _ e))
  exact wpAny_bind (wpAny_newList (wpAny_pure (h h₂ tk he)))
/-- a, *b = c with plain names -/
def sStar (i j : Nat) (m : EM) : SMm := fun σ st => (m σ st).to σ fun w st1 => match w with
  | .p (.tup (x :: l)) => if l.length < 16384 then .ok .nx ((σ.set i (some (.p x))).set j (some (.p (.lst l)))) st1 else .no
  | _ => .no
theorem ss_star {i j : Nat} {x y : Str} {m : EM} {e : Expr} {px py p2 pt pos : Pos} {kt : Nat} (g : GX K X) (hi : X.N[i]? = some x) (hj : X.N[j]? = some y) (hx : Loc X.env.scope x) (hy : Loc X.env.scope y) (hfx : X.fn x = true ∨ X.env.scope.names.lookup x = some .local) (hfy : X.fn y = true ∨ X.env.scope.names.lookup y = some .local)
    (h : SE K cl X Wx m e)
    (hs : swapsWithSole [.Tuple [.Name x px, .Starred (.Name y py) p2] kt pt] e pos.line X.env = pure false := by rfl) (hw : swappedStores [.Tuple [.Name x px, .Starred (.Name y py) p2] kt pt] e X.env = pure none := by rfl)
    (h1 : (assignEach [.Tuple [.Name x px, .Starred (.Name y py) p2] kt pt] X.env).map (·.2) = [PySem.assign (.Tuple [.Name x px, .Starred (.Name y py) p2] kt pt) X.env] := by rfl)
    (h2 : assignEach [.Name x px, .Starred (.Name y py) p2] X.env = [(false, PySem.assign (.Name x px) X.env), (true, PySem.assign (.Name y py) X.env)] := by rfl) :
    SS K cl X Wx (sStar i j m) (.Assign [.Tuple [.Name x px, .Starred (.Name y py) p2] kt pt] e pos) := by
  have pg : PG X (.Tuple [.Name x px, .Starred (.Name y py) p2] kt pt) (fun v σ H Q => ∃ a u us, v = .ref a ∧ SqT X.K H a (u :: us) ∧ us.length < 16384 ∧ ∀ p, H p = none → Q ((σ.set i (some u)).set j (some (.ref p))) (upd H p (.lst us))) := by
    refine ⟨fun pins s σ H v u Q I rv hw => ?_⟩
    obtain ⟨a, w, us, rfl, hq, hl, q⟩ := hw
    cases rv
    obtain ⟨its, rs, ht, hz⟩ := I.tuple hq
    cases rs with
    | @cons _ w0 _ ws r0 rs =>
      rw [assign_Tuple]
      refine wpAny_bind (wpAny_standAt ?_)
      unfold unpack
      rw [h2]
      refine wpAny_bind (wpAny_holding (star_tup ht (I.ok.hd g.hc) (by rw [← rs.length]; exact hl) fun h' tk he => ?_))
      have I1 : Inv X pins σ H { s with heap := h', toks := tk } := I.kept he
      have I2 := I1.lnew (t' := tk) (ys := us) (its := ws) rs (by rw [sizeLine_eq]; omega)
      have hp := I1.hok.fresh (Nat.le_refl h'.objs.size)
      refine assignInOrder_cons (thn ((pg_name g.hN hi hx hfx).run pins _ σ _ w w0 (fun σ1 H1 => σ1 = σ.set i (some w) ∧ H1 = upd H h'.objs.size (.lst us)) I2 r0 ⟨rfl, rfl⟩) fun _ s1 ⟨σ1, H1, I3, e1, e2⟩ => ?_)
      subst e1 e2
      refine assignInOrder_cons (thn ((pg_name g.hN hj hy hfy).run pins _ _ _ (.ref h'.objs.size) (.ref h'.objs.size) Q I3 rfl (q _ hp)) fun _ s2 q2 => ?_)
      exact assignInOrder_nil q2
  refine ⟨fun E0 ρ G σ st τ H D R S q => TS'.of (ps_asg T.pe pg hs hw h1) ?_⟩
  refine h.run E0 ρ G σ st τ H _ R S (AftS.seq S q fun w st1 ρ1 G1 H1 v e1 p1 s1 R1 u1 q1 => ?_)
  split at q1
  · rename_i z l
    split at q1
    · rename_i hl
      cases u1 with
      | tup hh qq =>
        cases qq with
        | @cons _ u _ us r0 rs =>
          refine ⟨_, _, _, rfl, by rw [g.hK]; exact R1.sub.sqT hh, by rw [← rs.length]; exact hl, fun p hp => ?_⟩
          have sn := Sub.new (o := .lst us) (R1.gnone hp)
          exact q1 ρ1 _ _ _ (List.prefix_refl _) sn (R1.froze hp) (((S.mono p1 (s1.trans sn)).set (w := .p z) (r0.mono sn) i).set (w := .p (.lst l)) (.lst upd_same (rs.mono sn)) j)
    · exact q1.elim
  · exact q1.elim
end
end Y

/-! Y12: zip of two things, each a list, a tuple or a text. -/
namespace Y
open PySem PySem.Spec PyProof.Rows L2
/-- a list, a tuple, a text -/
inductive ZK where
  | L (a : Addr) | T (a : Addr) | S (x : Str)
def ZK.val : ZK → V
  | .L a => .ref a
  | .T a => .ref a
  | .S x => .str x
/-- so many items; the i-th -/
def ZK.len (K : PySem.W.Frag) (H : Hp) (n : Nat) : ZK → Prop
  | .L a => ∃ xs, SqL K H a xs ∧ xs.length = n
  | .T a => ∃ xs, SqT K H a xs ∧ xs.length = n
  | .S x => x.cps.size = n
def ZK.sure (K : PySem.W.Frag) (H : Hp) (i : Nat) (v : V) : ZK → Prop
  | .L a => ∀ xs, SqL K H a xs → xs[i]? = some v
  | .T a => ∀ xs, SqT K H a xs → xs[i]? = some v
  | .S x => ∃ c, x.cps[i]? = some c ∧ v = .str ⟨#[c]⟩
/-- the iterator alone -/
def ZK.itr (t : Tok) (h : Heap) (it : Addr) (i : Nat) : ZK → Prop
  | .L a => h.IsListIter it a i
  | .T a => h.IsTupleIter it a i
  | .S x => h.IsStrIter it (strIterType x) x t i
def ZK.off (it : Addr) : ZK → Prop
  | .L a => a ≠ it
  | .T a => a ≠ it
  | .S _ => True
def ItzZ (K : PySem.W.Frag) (k1 k2 : ZK) : It :=
  ⟨fun i H => ∃ n1 n2, k1.len K H n1 ∧ k2.len K H n2 ∧ i < n1 ∧ i < n2,
    fun i H v H' => ∃ T x y, v = .ref T ∧ H T = none ∧ H' = upd H T (.tup [x, y]) ∧ k1.sure K H i x ∧ k2.sure K H i y,
    fun i H => ∃ n1 n2, k1.len K H n1 ∧ k2.len K H n2 ∧ i ≤ n1 ∧ i ≤ n2 ∧ (i = n1 ∨ i = n2)⟩
section
variable {X : Cx} {pins : List (Addr × Obj)} {τ : L2.St} {H : Hp} {s : Shared}
theorem ZK.itr_at {kd : ZK} {t : Tok} {h h' : Heap} {it : Addr} {i : Nat} (g : kd.itr t h it i) (k : ∀ o, h.get? it = some o → h'.get? it = some o) : kd.itr t h' it i := by
  cases kd with
  | L a => exact Heap.IsListIter.at g k
  | T a => exact Heap.IsTupleIter.at g k
  | S x => obtain ⟨o, ho, r⟩ := g; exact ⟨o, k o ho, r⟩
theorem ZK.itr_rec {kd : ZK} {t : Tok} {h : Heap} {it : Addr} {i : Nat} (g : kd.itr t h it i) : ∃ o, h.get? it = some o ∧ ∀ v, o.data ≠ .cell v := by
  cases kd with
  | L a => obtain ⟨o, ho, _, hd⟩ := g; exact ⟨o, ho, fun v e => by rw [hd] at e; cases e⟩
  | T a => obtain ⟨o, ho, _, hd⟩ := g; exact ⟨o, ho, fun v e => by rw [hd] at e; cases e⟩
  | S x => obtain ⟨o, ho, _, hd⟩ := g; exact ⟨o, ho, fun v e => by rw [hd] at e; cases e⟩
/-- the library's drawing from such an iterator, the content as it stands -/
theorem ZK.draws {kd : ZK} {t : Tok} {it : Addr} {n i : Nat} {A : Around} (hh : A.handled = none) (I : Inv X pins τ H s) (hl : kd.len X.K H n) (ho : kd.off it) (hi : kd.itr t s.heap it i) :
    ∃ (fp : List Addr) (P : Nat → Value → Prop) (St : Nat → Heap → Prop), Draws X.prog X.w A it fp n P St ∧ St i s.heap ∧ it ∈ fp ∧ (∀ b ∈ fp, b < s.heap.objs.size) ∧ (∀ b ∈ fp, b ≠ it → kd.val = .ref b) ∧ (∀ j h, St j h → kd.itr t h it j) ∧ ∀ u, i < n → P i u → ∃ v, RelV v u ∧ kd.sure X.K H i v := by
  cases kd with
  | L a =>
    obtain ⟨xs, hs, rfl⟩ := hl
    obtain ⟨its, rv, p, _⟩ := I.list hs
    have sz : its.toArray.size = xs.length := by rw [List.size_toArray]; exact rv.length.symm
    obtain ⟨oi, hoi, _⟩ := id hi
    obtain ⟨oa, hoa, _⟩ := id p.isList
    have D := Draws.list (prog := X.prog) (w := X.w) hh it a ho its.toArray
    rw [sz] at D
    refine ⟨_, _, _, D, ⟨hi, p.isList⟩, by simp, fun b hb => ?_, fun b hb hne => ?_, fun j h st => st.1, fun u hlt hu => ?_⟩
    · rcases List.mem_cons.mp hb with rfl | hb
      · exact Heap.lt_size hoi
      · rw [List.mem_singleton.mp hb]; exact Heap.lt_size hoa
    · rcases List.mem_cons.mp hb with e | hb
      · exact absurd e hne
      · rw [List.mem_singleton.mp hb]; rfl
    · have hu' : its[i]? = some u := by simpa using hu
      obtain ⟨v, hv⟩ : ∃ v, xs[i]? = some v := ⟨xs[i], List.getElem?_eq_getElem hlt⟩
      obtain ⟨u2, e2, r2⟩ := rv.get hv
      rw [hu'] at e2; cases e2
      exact ⟨v, r2, fun ys hy => by rw [I.list_inj hy hs]; exact hv⟩
  | T a =>
    obtain ⟨xs, hs, rfl⟩ := hl
    obtain ⟨its, rv, p, _⟩ := I.tuple hs
    have p' : s.heap.IsTuple a its.toArray := p
    have sz : its.toArray.size = xs.length := by rw [List.size_toArray]; exact rv.length.symm
    obtain ⟨oi, hoi, _⟩ := id hi
    obtain ⟨oa, hoa, _⟩ := id p'
    have D := Draws.tuple (prog := X.prog) (w := X.w) hh it a ho its.toArray
    rw [sz] at D
    refine ⟨_, _, _, D, ⟨hi, p'⟩, by simp, fun b hb => ?_, fun b hb hne => ?_, fun j h st => st.1, fun u hlt hu => ?_⟩
    · rcases List.mem_cons.mp hb with rfl | hb
      · exact Heap.lt_size hoi
      · rw [List.mem_singleton.mp hb]; exact Heap.lt_size hoa
    · rcases List.mem_cons.mp hb with e | hb
      · exact absurd e hne
      · rw [List.mem_singleton.mp hb]; rfl
    · have hu' : its[i]? = some u := by simpa using hu
      obtain ⟨v, hv⟩ : ∃ v, xs[i]? = some v := ⟨xs[i], List.getElem?_eq_getElem hlt⟩
      obtain ⟨u2, e2, r2⟩ := rv.get hv
      rw [hu'] at e2; cases e2
      exact ⟨v, r2, fun ys hy => by rw [I.tuple_inj hy hs]; exact hv⟩
  | S x =>
    have hl : x.cps.size = n := hl
    subst hl
    obtain ⟨oi, hoi, _⟩ := id hi
    refine ⟨_, _, _, Draws.text (prog := X.prog) (w := X.w) hh it x t, hi, by simp, fun b hb => ?_, fun b hb hne => ?_, fun j h st => st, fun u hlt hu => ?_⟩
    · rw [List.mem_singleton.mp hb]; exact Heap.lt_size hoi
    · exact absurd (List.mem_singleton.mp hb) hne
    · obtain ⟨c, t', hc, rfl⟩ := hu
      exact ⟨.str ⟨#[c]⟩, ⟨t', rfl⟩, c, hc, rfl⟩
structure ZApart (z TI TO i1 i2 : Addr) (k1 k2 : ZK) : Prop where
  TIz : TI ≠ z
  TOz : TO ≠ z
  i1z : i1 ≠ z
  i2z : i2 ≠ z
  TITO : TI ≠ TO
  TIi1 : TI ≠ i1
  TIi2 : TI ≠ i2
  TOi1 : TO ≠ i1
  TOi2 : TO ≠ i2
  i12 : i1 ≠ i2
  o1 : ∀ a, k1.val = .ref a → a ≠ z ∧ a ≠ TO ∧ a ≠ i1 ∧ a ≠ i2
  o2 : ∀ a, k2.val = .ref a → a ≠ z ∧ a ≠ TO ∧ a ≠ i1 ∧ a ≠ i2
theorem ZApart.off1 {z TI TO i1 i2 : Addr} {k1 k2 : ZK} (D : ZApart z TI TO i1 i2 k1 k2) : k1.off i1 := by
  cases k1 with
  | L a => exact (D.o1 a rfl).2.2.1
  | T a => exact (D.o1 a rfl).2.2.1
  | S x => trivial
theorem ZApart.off2 {z TI TO i1 i2 : Addr} {k1 k2 : ZK} (D : ZApart z TI TO i1 i2 k1 k2) : k2.off i2 := by
  cases k2 with
  | L a => exact (D.o2 a rfl).2.2.2
  | T a => exact (D.o2 a rfl).2.2.2
  | S x => trivial
theorem ZApart.sep {z TI TO i1 i2 : Addr} {k1 k2 : ZK} {fp1 fp2 : List Addr} (D : ZApart z TI TO i1 i2 k1 k2) (m1 : i1 ∈ fp1) (m2 : i2 ∈ fp2) (h1 : ∀ b ∈ fp1, b ≠ i1 → k1.val = .ref b) (h2 : ∀ b ∈ fp2, b ≠ i2 → k2.val = .ref b) : ZipSep2 z TI TO i1 i2 fp1 fp2 where
  TIz := D.TIz
  TOz := D.TOz
  TITO := D.TITO
  TIi1 := D.TIi1
  mem1 := m1
  zf1 := fun m => by
    by_cases e : z = i1
    · exact D.i1z e.symm
    · exact (D.o1 z (h1 z m e)).1 rfl
  Tf1 := fun m => (D.o1 TO (h1 TO m D.TOi1)).2.1 rfl
  TIi2 := D.TIi2
  mem2 := m2
  zf2 := fun m => by
    by_cases e : z = i2
    · exact D.i2z e.symm
    · exact (D.o2 z (h2 z m e)).1 rfl
  Tf2 := fun m => (D.o2 TO (h2 TO m D.TOi2)).2.1 rfl
  sep1_2 := fun m => (D.o2 i1 (h2 i1 m D.i12)).2.2.1 rfl
  sep2_1 := fun m => (D.o1 i2 (h1 i2 m (Ne.symm D.i12))).2.2.2 rfl
theorem turn_zz {P : Program} {w : World} {K : PySem.W.Frag} {elts : List Expr} {kk : Nat} {tpos : Pos} {k1 k2 : ZK} {t1 t2 : Tok} {z TI TO i1 i2 : Addr} (D : ZApart z TI TO i1 i2 k1 k2) :
    Turn P w K (.Tuple elts kk tpos) (ItzZ K k1 k2) [z, TI, TO, i1, i2] z (fun i h => IsZip h z TI TO .none ∧ IsTupOf2 h TI (.ref i1) (.ref i2) ∧ (∃ x y, IsTupOf2 h TO x y) ∧ k1.itr t1 h i1 i ∧ k2.itr t2 h i2 i) where
  mem := by simp
  obj := fun i h st c hc => by
    obtain ⟨hz, hTI, ⟨x, y, hTO⟩, g1, g2⟩ := st
    have e' : c = z ∨ c = TI ∨ c = TO ∨ c = i1 ∨ c = i2 := by simpa using hc
    rcases e' with q | q | q | q | q
    · rw [q]; exact ⟨_, hz, fun v q => nomatch q⟩
    · rw [q]; exact ⟨_, hTI, fun v q => nomatch q⟩
    · rw [q]; exact ⟨_, hTO, fun v q => nomatch q⟩
    · rw [q]; exact ZK.itr_rec g1
    · rw [q]; exact ZK.itr_rec g2
  keep := fun i h h' st k => by
    obtain ⟨hz, hTI, ⟨x, y, hTO⟩, g1, g2⟩ := st
    exact ⟨k z (by simp) _ hz, k TI (by simp) _ hTI, ⟨x, y, k TO (by simp) _ hTO⟩, ZK.itr_at g1 fun o q => k i1 (by simp) o q, ZK.itr_at g2 fun o q => k i2 (by simp) o q⟩
  item := by
    intro X hP hw hK hc i pins s σ H E I hf st hg
    subst hP hw hK
    obtain ⟨hz, hTI, ⟨x0, y0, hTO⟩, g1, g2⟩ := st
    obtain ⟨n1, n2, l1, l2, b1, b2⟩ := hg
    obtain ⟨fp1, P1, St1, D1, st1, m1, lt1, ot1, it1, pv1⟩ := ZK.draws (A := X.A.in1) (I.ok.hd hc) I l1 D.off1 g1
    obtain ⟨fp2, P2, St2, D2, st2, m2, lt2, ot2, it2, pv2⟩ := ZK.draws (A := X.A.in1) (I.ok.hd hc) I l2 D.off2 g2
    have hzl : z < s.heap.objs.size := Heap.lt_size hz
    refine wpAny_pyNext_zipD2_item (D.sep m1 m2 ot1 ot2) D1 D2 hz hTI hTO st1 st2 b1 b2 fun u1 u2 h' tk p1 p2 z' TO' st1' st2' hT hsz hk => ?_
    obtain ⟨x, rx, sx⟩ := pv1 u1 b1 p1
    obtain ⟨y, ry, sy⟩ := pv2 u2 b2 p2
    refine ⟨_, rfl, wpAny_letOwnedTupleGo_zip (s := { s with heap := h', toks := tk }) z' fun h'' z'' sb => ?_⟩
    have hT2 : h''.get? s.heap.objs.size = some { cls := .type "tuple", data := .seq #[u1, u2] } := (sb.2 _ (Nat.ne_of_gt hzl)).trans hT
    have new : ObjOk X.prog X.w (upd H s.heap.objs.size (.tup [x, y])) h'' s.heap.objs.size (.tup [x, y]) :=
      ⟨by show 2 ≤ sizeLine; decide, [u1, u2], .cons rx (.cons ry .nil), ⟨_, hT2, rfl, _, rfl⟩⟩
    have I1 : Inv X pins σ (upd H s.heap.objs.size (.tup [x, y])) { s with heap := h'', toks := tk } :=
      I.turnedNew (ch := [z, TI, TO, i1, i2]) (fun c o hb q => (sb.2 c (fun q' => hb (by simp [q']))).trans (hk c o (fun q' => hb (by simp [q'])) (fun q' => hb (by simp [q'])) (fun q' => hb (by simp [q'])) (fun q' => hb (by simp [q'])) q)) hf (Nat.le_refl _) new
    refine ⟨.ref s.heap.objs.size, _, I1, rfl, ⟨_, x, y, rfl, I.hok.fresh (Nat.le_refl _), rfl, sx, sy⟩, ⟨z'', ?_, ⟨u1, u2, ?_⟩, ?_, ?_⟩, fun c hcm => ?_⟩
    · exact (sb.2 _ D.TIz).trans (hk _ _ D.TIz D.TITO D.TIi1 D.TIi2 hTI)
    · exact (sb.2 _ D.TOz).trans TO'
    · exact ZK.itr_at (it1 _ _ st1') fun o q => (sb.2 _ D.i1z).trans q
    · exact ZK.itr_at (it2 _ _ st2') fun o q => (sb.2 _ D.i2z).trans q
    · have hlt : c < s.heap.objs.size := by
        have e' : c = z ∨ c = TI ∨ c = TO ∨ c = i1 ∨ c = i2 := by simpa using hcm
        rcases e' with q | q | q | q | q
        · rw [q]; exact hzl
        · rw [q]; exact Heap.lt_size hTI
        · rw [q]; exact Heap.lt_size hTO
        · rw [q]; obtain ⟨_, e1, _⟩ := ZK.itr_rec g1; exact Heap.lt_size e1
        · rw [q]; obtain ⟨_, e2, _⟩ := ZK.itr_rec g2; exact Heap.lt_size e2
      rw [upd_ne (Nat.ne_of_lt hlt)]
      exact (hf c hcm).1
  done := by
    intro X hP hw hK hc i pins s σ H E I hf st hg
    subst hP hw hK
    obtain ⟨hz, hTI, ⟨x0, y0, hTO⟩, g1, g2⟩ := st
    obtain ⟨n1, n2, l1, l2, b1, b2, hend⟩ := hg
    obtain ⟨fp1, P1, St1, D1, st1, m1, lt1, ot1, it1, pv1⟩ := ZK.draws (A := X.A.in1) (I.ok.hd hc) I l1 D.off1 g1
    obtain ⟨fp2, P2, St2, D2, st2, m2, lt2, ot2, it2, pv2⟩ := ZK.draws (A := X.A.in1) (I.ok.hd hc) I l2 D.off2 g2
    exact wpAny_pyNext_zipD2_end (D.sep m1 m2 ot1 ot2) D1 D2 hz hTI hTO st1 st2 b1 b2 hend fun h' tk hk => ⟨rfl, I.turnedL (t' := tk) (ch := [z, TI, TO, i1, i2]) (fun c o hb q =>
      hk c o (fun q' => hb (by simp [q'])) (fun q' => hb (by simp [q'])) (fun q' => hb (by simp [q'])) (fun q' => hb (by simp [q'])) q) hf⟩
  self := fun A i s Q E st h => wpAny_pyIter_zip st.1 h
/-- the start: the value, its iterator's object -/
theorem ZK.begins {kd : ZK} {n : Nat} {u : Value} (I : Inv X pins τ H s) (hl : kd.len X.K H n) (r : RelV kd.val u) : ∃ (o : Obj) (t : Tok) (H1 : Heap → Prop), Begins u o H1 ∧ H1 s.heap ∧ (∀ (h : Heap) (it : Addr), h.get? it = some o → kd.itr t h it 0) ∧ ∀ a, kd.val = .ref a → a < s.heap.objs.size := by
  cases kd with
  | L a =>
    obtain ⟨xs, hs, _⟩ := hl
    obtain ⟨its, rv, p, _⟩ := I.list hs
    cases r
    obtain ⟨oa, hoa, _⟩ := id p.isList
    exact ⟨_, 0, _, begins_list a its.toArray, p.isList, fun h it e => ⟨_, e, rfl, rfl⟩, fun b e => by cases e; exact Heap.lt_size hoa⟩
  | T a =>
    obtain ⟨xs, hs, _⟩ := hl
    obtain ⟨its, rv, p, _⟩ := I.tuple hs
    have p' : s.heap.IsTuple a its.toArray := p
    cases r
    obtain ⟨oa, hoa, _⟩ := id p'
    exact ⟨_, 0, _, begins_tuple a its.toArray, p', fun h it e => ⟨_, e, rfl, rfl⟩, fun b e => by cases e; exact Heap.lt_size hoa⟩
  | S x =>
    obtain ⟨t, rfl⟩ := r
    exact ⟨_, t, _, begins_text x t, trivial, fun h it e => ⟨_, e, rfl, rfl⟩, fun b e => by cases e⟩
def iZz (K : PySem.W.Frag) (ta : TA) : TI := fun σ H R => ta σ H fun vs H1 => ∃ k1 k2 n1 n2, vs = [ZK.val k1, ZK.val k2] ∧ k1.len K H1 n1 ∧ k2.len K H1 n2 ∧ R (ItzZ K k1 k2) H1
theorem apart5 {a n : Nat} (h : a < n) : a ≠ n + 4 ∧ a ≠ n + 3 ∧ a ≠ n ∧ a ≠ n + 1 := by omega
theorem pi_zz {e e2 : Expr} {ta : TA} {p pos tpos : Pos} {elts : List Expr} {kk : Nat} (hg : Gl X "zip") (hm : X.mg "zip" = none) (ha : PA X [e, e2] ta)
    (hs : starEach [e, e2] X.env = (false, eval e X.env) :: starEach [e2] X.env := by rfl) (hpl : (backTo pos (starEach [e2] X.env)).any (·.1) = false := by rfl) :
    PI X (.Tuple elts kk tpos) (.Call (.Name "zip" p) [e, e2] [] pos) (iZz X.K ta) := by
  refine ⟨fun pins s σ H R I h => ?_⟩
  refine Call_ (ld_blt I hg hm PyProof.Rows.boot_zip (PyProof.Rows.callWith_type1 (thn (ha.run pos pins s σ H _ I h) fun us s1 ⟨vs, H1, I1, r1, q1⟩ => ?_) hs hpl))
  obtain ⟨k1, k2, n1, n2, ex, l1, l2, q⟩ := q1
  subst ex
  cases r1 with
  | cons r rr =>
    cases rr with
    | cons r' rr =>
      cases rr
      obtain ⟨o1, t1, G1, B1, b1, f1, lt1⟩ := ZK.begins I1 l1 r
      obtain ⟨o2, t2, G2, B2, b2, f2, lt2⟩ := ZK.begins I1 l2 r'
      refine zip_begins2 B1 B2 b1 b2 fun h' hz hTI hTO h1 h2 hsz hk => wpAny_pyIter_zip hz ?_
      have I2 : Inv X pins σ H1 { s1 with heap := h' } := I1.kept (t' := s1.toks) hk
      have D : ZApart (s1.heap.objs.size + 4) (s1.heap.objs.size + 2) (s1.heap.objs.size + 3) s1.heap.objs.size (s1.heap.objs.size + 1) k1 k2 := by
        refine ⟨?_, ?_, ?_, ?_, ?_, ?_, ?_, ?_, ?_, ?_, fun a e => ?_, fun a e => ?_⟩
        · exact fun x => by have : s1.heap.objs.size + 2 = s1.heap.objs.size + 4 := x; omega
        · exact fun x => by have : s1.heap.objs.size + 3 = s1.heap.objs.size + 4 := x; omega
        · exact fun x => by have : s1.heap.objs.size = s1.heap.objs.size + 4 := x; omega
        · exact fun x => by have : s1.heap.objs.size + 1 = s1.heap.objs.size + 4 := x; omega
        · exact fun x => by have : s1.heap.objs.size + 2 = s1.heap.objs.size + 3 := x; omega
        · exact fun x => by have : s1.heap.objs.size + 2 = s1.heap.objs.size := x; omega
        · exact fun x => by have : s1.heap.objs.size + 2 = s1.heap.objs.size + 1 := x; omega
        · exact fun x => by have : s1.heap.objs.size + 3 = s1.heap.objs.size := x; omega
        · exact fun x => by have : s1.heap.objs.size + 3 = s1.heap.objs.size + 1 := x; omega
        · exact fun x => by have : s1.heap.objs.size = s1.heap.objs.size + 1 := x; omega
        · exact apart5 (lt1 a e)
        · exact apart5 (lt2 a e)
      refine ⟨s1.heap.objs.size + 4, [s1.heap.objs.size + 4, s1.heap.objs.size + 2, s1.heap.objs.size + 3, s1.heap.objs.size, s1.heap.objs.size + 1], _, _, H1, rfl, I2, turn_zz (t1 := t1) (t2 := t2) D, ⟨hz, hTI, ⟨_, _, hTO⟩, f1 _ _ h1, f2 _ _ h2⟩, fun c hcm => ?_, q⟩
      have e' : c = s1.heap.objs.size + 4 ∨ c = s1.heap.objs.size + 2 ∨ c = s1.heap.objs.size + 3 ∨ c = s1.heap.objs.size ∨ c = s1.heap.objs.size + 1 := by simpa using hcm
      have hle : s1.heap.objs.size ≤ c := by
        rcases e' with z | z | z | z | z
        · rw [z]; exact Nat.le_add_right _ _
        · rw [z]; exact Nat.le_add_right _ _
        · rw [z]; exact Nat.le_add_right _ _
        · rw [z]; exact Nat.le_refl _
        · rw [z]; exact Nat.le_add_right _ _
      exact I1.fpOk hle (I1.hok.fresh hle)
end
section
variable {K : PySem.W.Frag} {cl : Cls} {X : Cx} {Wx : WX} {E0 : En} {ρ ρ' : List Addr} {G G' : Hp} {σ : Sg} {τ : L2.St} {st : List Cell} {H : Hp} {D : Ends}
def srcZ (l : List W) : Src := ⟨fun _ i => if i ≤ l.length then some l[i]? else none, l.length⟩
/-- what can be zipped: its items -/
def zItems : W → Option (List P)
  | .p (.lst l) => some l
  | .p (.tup l) => some l
  | .p (.str z) => some (z.cps.toList.map fun c => .str ⟨#[c]⟩)
  | _ => none
def mZipA (a b : EM) : IM := fun σ st => (a σ st).bind fun x st1 => (b σ st1).bind fun y st2 => match zItems x, zItems y with
  | some l, some m => .ok (srcZ (zipL l m)) st2
  | _, _ => .no
/-- the thing, its items as data -/
structure ZRel (K : PySem.W.Frag) (cl : Cls) (G : Hp) (kd : ZK) (l : List P) : Prop where
  len : ∀ G' H, Sub G G' → Sub G' H → kd.len K H l.length
  at_ : ∀ G' H i x v, Sub G G' → Sub G' H → l[i]? = some x → kd.sure K H i v → RP K cl G' x v
theorem zrel {w : W} {v : V} {l : List P} (r : RW K cl ρ G w v) (e : zItems w = some l) : ∃ kd, v = ZK.val kd ∧ ZRel K cl G kd l := by
  cases w with
  | r i => cases e
  | p x =>
    cases x with
    | lst m =>
      cases e
      cases r with
      | lst h q =>
        rename_i a vs
        refine ⟨.L a, rfl, ⟨fun G' H s1 s2 => ⟨vs, .inl (.inl (s2 _ _ (s1 _ _ h))), q.length.symm⟩, fun G' H i x v s1 s2 ex su => ?_⟩⟩
        obtain ⟨u, eu, ru⟩ := q.get ex
        have := su vs (.inl (.inl (s2 _ _ (s1 _ _ h))))
        rw [eu] at this; cases this
        exact ru.mono s1
    | tup m =>
      cases e
      cases r with
      | tup h q =>
        rename_i a vs
        refine ⟨.T a, rfl, ⟨fun G' H s1 s2 => ⟨vs, s2.sqT (s1.sqT h), q.length.symm⟩, fun G' H i x v s1 s2 ex su => ?_⟩⟩
        obtain ⟨u, eu, ru⟩ := q.get ex
        have := su vs (s2.sqT (s1.sqT h))
        rw [eu] at this; cases this
        exact ru.mono s1
    | str z =>
      cases e
      cases r
      refine ⟨.S z, rfl, ⟨fun G' H s1 s2 => by simp [ZK.len], fun G' H i x v s1 s2 ex su => ?_⟩⟩
      obtain ⟨c, hc, rfl⟩ := su
      rw [List.getElem?_map, Array.getElem?_toList, hc] at ex
      cases ex
      exact .str _
    | _ => cases e
theorem zipL_length : ∀ (l m : List P), (zipL l m).length = min l.length m.length
  | [], m => by simp [zipL]
  | x :: l, [] => by simp [zipL]
  | x :: l, y :: m => by
    show (zipL l m).length + 1 = _
    rw [zipL_length l m]; simp
theorem wok_zz {k1 k2 : ZK} {l m : List P} (r1 : ZRel K cl G k1 l) (r2 : ZRel K cl G k2 m) : WOk K cl ρ G (ItzZ K k1 k2) (srcZ (zipL l m)) := by
  intro E0 ρ' G' st H i p s R
  have L1 := r1.len G' H s R.sub
  have L2 := r2.len G' H s R.sub
  have ll := zipL_length l m
  unfold srcZ
  dsimp only
  by_cases hi : i ≤ (zipL l m).length
  · rw [if_pos hi, zipL_get]
    cases e : l[i]? with
    | none =>
      have := List.getElem?_eq_none_iff.mp e
      exact ⟨_, _, L1, L2, by omega, by omega, by omega⟩
    | some x =>
      have h1 : i < l.length := (List.getElem?_eq_some_iff.mp e).1
      cases e2 : m[i]? with
      | none =>
        have := List.getElem?_eq_none_iff.mp e2
        exact ⟨_, _, L1, L2, by omega, by omega, by omega⟩
      | some y =>
        have h2 : i < m.length := (List.getElem?_eq_some_iff.mp e2).1
        refine ⟨⟨_, _, L1, L2, h1, h2⟩, fun w H' yl => ?_⟩
        obtain ⟨T, v, u, rfl, hT, rfl, sv, su⟩ := yl
        have sn := Sub.new (o := .tup [v, u]) (R.gnone hT)
        exact ⟨_, sn, R.froze hT, RP.tup (.inl (.inl upd_same)) (.cons ((r1.at_ G' H i x v s R.sub e sv).mono sn) (.cons ((r2.at_ G' H i y u s R.sub e2 su).mono sn) .nil))⟩
  · rw [if_neg hi]
    trivial
theorem si_zipA {a b : EM} {e e2 : Expr} {p pos tpos : Pos} {elts : List Expr} {kk : Nat} (g : GX K X) (hg : Gl X "zip") (hm : X.mg "zip" = none) (ha : SE K cl X Wx a e) (hb : SE K cl X Wx b e2)
    (hs : starEach [e, e2] X.env = (false, eval e X.env) :: starEach [e2] X.env := by rfl) (hs2 : starEach [e2] X.env = (false, eval e2 X.env) :: starEach [] X.env := by rfl) (hpl : (backTo pos (starEach [e2] X.env)).any (·.1) = false := by rfl) :
    SI K cl X Wx (.Tuple elts kk tpos) (mZipA a b) (.Call (.Name "zip" p) [e, e2] [] pos) := by
  obtain ⟨hK, _⟩ := g
  subst hK
  refine ⟨fun E0 ρ G σ st τ H R Rl S q => TIc.of (pi_zz hg hm (pa_cons T.pe (T.pa1 hs2) hs) hs hpl) ?_⟩
  refine ha.run E0 ρ G σ st τ H _ Rl S (Aft.seq q fun w st1 ρ1 G1 H1 v e1 p1 s1 R1 u1 h1 => ?_)
  refine hb.run E0 ρ1 G1 σ st1 τ H1 _ R1 (S.mono p1 s1) (Aft.seq h1 fun u st2 ρ2 G2 H2 v2 e2 p2 s2 R2 u2 h2 => ?_)
  replace u1 := RW.mono p2 s2 u1
  split at h2
  · rename_i l m el em
    obtain ⟨k1, rfl, z1⟩ := zrel u1 el
    obtain ⟨k2, rfl, z2⟩ := zrel u2 em
    exact ⟨k1, k2, _, _, rfl, z1.len G2 H2 (Sub.refl _) R2.sub, z2.len G2 H2 (Sub.refl _) R2.sub, h2 ρ2 G2 H2 _ (List.prefix_refl _) (Sub.refl _) R2 (wok_zz z1 z2)⟩
  · exact h2.elim
end
end Y

/-! Y13: names of the module, its tables; displays of dicts, their items; join; ~ of an instance. -/
namespace Y
open PySem PySem.Spec PyProof.Rows L2
section
variable {K : PySem.W.Frag} {cl : Cls} {X : Cx} {Wx : WX} {E0 : En} {ρ ρ' : List Addr} {G G' : Hp} {σ : Sg} {τ : L2.St} {st : List Cell} {H : Hp} {D : Ends}

/-! ### constants of the module -/
theorem se_gint {x : Str} {i : Int} {pos : Pos} (hg : Gl X x) (hm : ∃ t, X.mg x = some (.int i t)) (hd : (x == ("__debug__" : Str)) = false := by decide +kernel) : SE K cl X Wx (mC (.int i)) (.Name x pos) := by
  obtain ⟨t, e⟩ := hm
  exact se_glob (v := .int i) hg e ⟨t, rfl⟩ (fun G => .int i) hd
theorem se_gstr {x z : Str} {pos : Pos} (hg : Gl X x) (hm : ∃ t, X.mg x = some (.str z t)) (hd : (x == ("__debug__" : Str)) = false := by decide +kernel) : SE K cl X Wx (mC (.str z)) (.Name x pos) := by
  obtain ⟨t, e⟩ := hm
  exact se_glob (v := .str z) hg e ⟨t, rfl⟩ (fun G => .str z) hd

/-! ### a table of the module: texts at texts -/
structure KTab (K : PySem.W.Frag) (w : World) (d : Addr) (kvs : List (Str × Str)) : Prop where
  kd : ∃ es n, KDict K w d es n
  yes : ∀ z y, kvs.lookup z = some y → ∃ t, PySem.W.nsIn K d z = some (some (.str y t))
  no : ∀ z, kvs.lookup z = none → PySem.W.nsIn K d z = some none
theorem pe_gref {x : Str} {d : Addr} {pos : Pos} (hg : Gl X x) (hm : X.mg x = some (.ref d)) (hd : (x == ("__debug__" : Str)) = false := by decide +kernel) : PE X (.Name x pos) (tC (.ref d)) := pe_glob hg hm rfl hd
def mInT (kvs : List (Str × Str)) (neg : Bool) (a : EM) : EM := fun σ st => (a σ st).bind fun w st1 => match w with
  | .p (.str z) => .ok (.p (.bl (if neg = true then !(kvs.lookup z).isSome else (kvs.lookup z).isSome))) st1
  | _ => .no
theorem KTab.in_ {w : World} {d : Addr} {kvs : List (Str × Str)} (T : KTab K w d kvs) (z : Str) : ∃ r, PySem.W.nsIn K d z = some r ∧ r.isSome = (kvs.lookup z).isSome := by
  cases e : kvs.lookup z with
  | none => exact ⟨none, T.no z e, rfl⟩
  | some y =>
    obtain ⟨t, h⟩ := T.yes z y e
    exact ⟨_, h, rfl⟩
theorem inT_core {neg : Bool} {op : CmpOp} {d : Addr} {kvs : List (Str × Str)} {a : EM} {pa : Expr} {x : Str} {p pos : Pos} (g : GX K X) (tb : KTab K X.w d kvs)
    (ho : ∀ es n, KDict X.K X.w d es n → OpR X (compareOp op) (fun x y H Q => ∃ (z : Str) (r : Option Value), x = .str z ∧ y = .ref d ∧ PySem.W.nsIn X.K d z = some r ∧ Q (.bl (if neg = true then !r.isSome else r.isSome)) H))
    (hg : Gl X x) (hm : X.mg x = some (.ref d)) (hd : (x == ("__debug__" : Str)) = false) (hb : behindInMarks op (.Name x p) = false) (ha : SE K cl X Wx a pa) : SE K cl X Wx (mInT kvs neg a) (.Compare pa [op] [.Name x p] pos) := by
  obtain ⟨hK, _⟩ := g
  subst hK
  obtain ⟨es, n, kd⟩ := tb.kd
  refine ⟨fun E0 ρ G σ st τ H Q R S h => T.of (pe_cmpR (ho es n kd) T.pe (pe_gref hg hm hd) hb) ?_⟩
  refine ha.run E0 ρ G σ st τ H _ R S (Aft.seq h fun w st1 ρ1 G1 H1 v e1 p1 s1 R1 u1 h1 => ?_)
  split at h1
  · rename_i z
    cases u1
    obtain ⟨r, hr, hs⟩ := tb.in_ z
    refine ⟨z, r, rfl, rfl, hr, ?_⟩
    rw [hs]
    exact h1.here R1 (RP.bl _)
  · exact h1.elim
theorem se_inT {d : Addr} {kvs : List (Str × Str)} {a : EM} {pa : Expr} {x : Str} {p pos : Pos} (g : GX K X) (tb : KTab K X.w d kvs) (hg : Gl X x) (hm : X.mg x = some (.ref d)) (hd : (x == ("__debug__" : Str)) = false) (ha : SE K cl X Wx a pa) : SE K cl X Wx (mInT kvs false a) (.Compare pa [.In] [.Name x p] pos) :=
  inT_core g tb (fun es n kd => op_in_kd kd) hg hm hd rfl ha
theorem se_notInT {d : Addr} {kvs : List (Str × Str)} {a : EM} {pa : Expr} {x : Str} {p pos : Pos} (g : GX K X) (tb : KTab K X.w d kvs) (hg : Gl X x) (hm : X.mg x = some (.ref d)) (hd : (x == ("__debug__" : Str)) = false) (ha : SE K cl X Wx a pa) : SE K cl X Wx (mInT kvs true a) (.Compare pa [.NotIn] [.Name x p] pos) :=
  inT_core g tb (fun es n kd => op_notIn_kd kd) hg hm hd rfl ha
/-- the same as tests -/
theorem st_of {a : EM} {op : CmpOp} {pa pb : Expr} {pos : Pos} (hm : behindInMarks op pb = false) (ha : SE K cl X Wx a (.Compare pa [op] [pb] pos)) (hr : ∀ whole, isTrue (.Compare pa [op] [pb] pos) X.env whole = (do let v ← whole; standAt (Expr.Compare pa [op] [pb] pos).pos; holding [v] (truthy v)) ) (g : GX K X) : ST K cl X Wx (mTru a) (.Compare pa [op] [pb] pos) := st_tru g ha hr
def mGetT (kvs : List (Str × Str)) (a : EM) : EM := fun σ st => (a σ st).bind fun w st1 => match w with
  | .p (.str z) => match kvs.lookup z with
    | some y => .ok (.p (.str y)) st1
    | none => .no
  | _ => .no
theorem se_getT {d : Addr} {kvs : List (Str × Str)} {a : EM} {pa : Expr} {x : Str} {p pos : Pos} (g : GX K X) (tb : KTab K X.w d kvs) (hg : Gl X x) (hm : X.mg x = some (.ref d)) (hd : (x == ("__debug__" : Str)) = false) (hs : NoSl pa) (ha : SE K cl X Wx a pa) : SE K cl X Wx (mGetT kvs a) (.Subscript (.Name x p) pa pos) := by
  obtain ⟨hK, _⟩ := g
  subst hK
  obtain ⟨es, n, kd⟩ := tb.kd
  have pe : PE X (.Subscript (.Name x p) pa pos) (fun σ H Q => T X pa σ H fun y H1 => ∃ (z : Str) (u0 : Value) (v0 : V), y = .str z ∧ PySem.W.nsIn X.K d z = some (some u0) ∧ RelV v0 u0 ∧ Q v0 H1) := by
    refine ⟨fun pins s σ H Q I h => ?_⟩
    refine subD_of PySem.F.slot_dict_getitem.lookup hs (thn ((pe_gref hg hm hd).run pins s σ H (fun x H1 => x = .ref d ∧ H1 = H) I ⟨rfl, rfl⟩) fun u s1 ⟨x, H1, I1, rx, ex, eH⟩ => ?_)
    subst ex eH
    cases rx
    refine thn (T.pe.run pins s1 σ H1 _ I1 h) fun iv s2 ⟨y, H2, I2, ry, z, u0, v0, ey, hn, rv, q⟩ => ?_
    exact ⟨kd_type kd I2, op_item_kd kd pins s2 σ H2 (.ref d) y (.ref d) iv Q I2 rfl ry ⟨z, u0, v0, rfl, ey, hn, rv, q⟩⟩
  refine ⟨fun E0 ρ G σ st τ H Q R S h => T.of pe ?_⟩
  refine ha.run E0 ρ G σ st τ H _ R S (Aft.seq h fun w st1 ρ1 G1 H1 v e1 p1 s1 R1 u1 h1 => ?_)
  split at h1
  · rename_i z
    cases u1
    split at h1
    · rename_i y ey
      obtain ⟨t, hn⟩ := tb.yes z y ey
      exact ⟨z, _, .str y, rfl, hn, ⟨t, rfl⟩, h1.here R1 (RP.str _)⟩
    · exact h1.elim
  · exact h1.elim
/-- a head's facts give such a table -/
theorem nsIn_out {a : Addr} {P : Params} {ks : List Str} {z : Str} (h : He.dicW K a = some (He.keysIn P ks)) (hz : z ∉ ks) : PySem.W.nsIn K a z = some none := by
  unfold He.dicW at h
  cases q : K.lookup a with
  | none => rw [q] at h; cases h
  | some o =>
    obtain ⟨oc, od, dt, osl⟩ := o
    rw [q] at h
    cases oc with
    | type c =>
      cases od with
      | none =>
        cases dt with
        | dict es n =>
          have h1 : (match decide (c = "dict") && (osl.isEmpty && !(a == sysModules)) with
            | true => some (es.toList.map He.keyOf)
            | false => none) = some (He.keysIn P ks) := h
          split at h1
          · have h2 := Option.some.inj h1
            have all : ∀ {l : List DictEntry} {ks : List Str}, l.map He.keyOf = He.keysIn P ks → z ∉ ks → l.find? (·.key.isStr z) = none ∧ l.any (·.refKey) = false := by
              intro l
              induction l with
              | nil => intro ks _ _; exact ⟨rfl, rfl⟩
              | cons e r ih =>
                intro ks h hz
                cases ks with
                | nil => cases h
                | cons k ks =>
                  have h3 : He.keyOf e :: r.map He.keyOf = some (k, PyData.keyHash P k) :: He.keysIn P ks := h
                  injection h3 with h4 h5
                  obtain ⟨i1, i2⟩ := ih h5 fun m => hz (List.mem_cons_of_mem _ m)
                  unfold He.keyOf at h4
                  split at h4
                  · rename_i x t q
                    have h6 := Option.some.inj h4
                    obtain ⟨h7, h8⟩ := Prod.mk.inj h6
                    subst h7
                    have ne : ¬ x = z := fun e => hz (by rw [← e]; exact List.mem_cons_self)
                    refine ⟨?_, ?_⟩
                    · rw [List.find?_cons]
                      have : e.key.isStr z = false := by
                        rw [q]
                        show (x == z) = false
                        exact beq_eq_false_iff_ne.mpr ne
                      rw [this]; exact i1
                    · rw [List.any_cons, i2]
                      have : e.refKey = false := by
                        unfold DictEntry.refKey
                        rw [q]
                      rw [this]; rfl
                  · cases h4
            obtain ⟨a1, a2⟩ := all h2 hz
            unfold PySem.W.nsIn
            rw [q]
            dsimp only
            rw [a1, a2]
            rfl
          · cases h1
        | _ => cases h
      | some b => cases dt <;> cases h
    | _ => cases od <;> cases dt <;> cases h
theorem ktab_of {w : World} {a : Addr} {kvs : List (Str × Str)} (h : He.dicW K a = some (He.keysIn w.params (kvs.map (·.1)))) (hv : He.valsB K a (kvs.map fun q => (q.1, He.Dv.str q.2)) = true) : KTab K w a kvs := by
  refine ⟨He.dicW_ok h, fun z y e => ?_, fun z e => nsIn_out h fun m => ?_⟩
  · have hm : (z, y) ∈ kvs := PySem.mem_of_lookup e
    obtain ⟨u, h1, h2⟩ := He.valsB_ok hv (q := (z, He.Dv.str y)) (List.mem_map.mpr ⟨(z, y), hm, rfl⟩)
    obtain ⟨t, rfl⟩ := h2
    exact ⟨t, h1⟩
  · obtain ⟨q, hq, rfl⟩ := List.mem_map.mp m
    have : ∀ {l : List (Str × Str)}, q ∈ l → l.lookup q.1 ≠ none := by
      intro l
      induction l with
      | nil => intro m; cases m
      | cons p r ih =>
        intro m
        rw [List.lookup_cons]
        split
        · simp
        · rename_i hb
          rcases List.mem_cons.mp m with e | m
          · subst e; simp at hb
          · exact ih m
    exact this hq e

/-! ### dicts: displays with text keys, items -/
/-- what stands at a key -/
def dkGet {α : Type} (ks : List Key) (l : List α) (k : Key) : Option α := ((ks.zip l).find? fun q => decide (q.1 = k)).map (·.2)
theorem RPs.dkGet {l : List P} {vs : List V} (q : RPs K cl G l vs) : ∀ {ks : List Key} {k : Key} {x : P}, Y.dkGet ks l k = some x → ∃ v, valV (ks.zip vs) k = some v ∧ RP K cl G x v := by
  induction l generalizing vs with
  | nil => intro ks k x e; cases ks <;> cases e
  | cons y l ih =>
    cases q with
    | cons h r =>
      intro ks k x e
      cases ks with
      | nil => cases e
      | cons k0 ks =>
        unfold Y.dkGet at e
        rw [List.zip_cons_cons, List.find?_cons] at e
        unfold valV
        rw [List.zip_cons_cons, List.find?_cons]
        by_cases hk : k0 = k
        · simp only [hk, decide_true] at e ⊢
          cases e
          exact ⟨_, rfl, h⟩
        · simp only [hk, decide_false] at e ⊢
          exact ih r e
def keyP : P → Option Key
  | .int i => some (.inl i)
  | .str z => some (.inr z)
  | _ => none
theorem keyP_ok {x : P} {v : V} {k : Key} (r : RP K cl G x v) (e : keyP x = some k) : v = kV k := by
  cases r <;> first | (unfold keyP at e; cases e; done) | (cases e; rfl)
def mDGet (o a : EM) : EM := fun σ st => (o σ st).bind fun w st1 => (a σ st1).bind fun x st2 => match w, x with
  | .p (.dk ks l), .p y => match keyP y with
    | some k => match dkGet ks l k with
      | some z => .ok (.p z) st2
      | none => .no
    | none => .no
  | _, _ => .no
theorem se_dget {o a : EM} {eo e : Expr} {pos : Pos} (g : GX K X) (hs : NoSl e) (ho : SE K cl X Wx o eo) (ha : SE K cl X Wx a e) : SE K cl X Wx (mDGet o a) (.Subscript eo e pos) := by
  have hu := g.hu
  refine ⟨fun E0 ρ G σ st τ H Q R S h => T.of (pe_dget (by omega) T.pe T.pe hs) ?_⟩
  refine ho.run E0 ρ G σ st τ H _ R S (Aft.seq h fun w st1 ρ1 G1 H1 v e1 p1 s1 R1 u1 h1 => ?_)
  refine ha.run E0 ρ1 G1 σ st1 τ H1 _ R1 (S.mono p1 s1) (Aft.seq h1 fun x st2 ρ2 G2 H2 u e2 p2 s2 R2 u2 h2 => ?_)
  replace u1 := RW.mono p2 s2 u1
  split at h2
  · rename_i ks l y
    split at h2
    · rename_i k ek
      split at h2
      · rename_i z ez
        have hk := keyP_ok u2 ek
        subst hk
        cases u1 with
        | dk hh zz q =>
          obtain ⟨v, ev, rv⟩ := q.dkGet ez
          exact ⟨_, v, rfl, .inl ⟨_, k, .inl (R2.sub _ _ hh), rfl, ev.symm⟩, h2.here R2 rv⟩
      · exact h2.elim
    · exact h2.elim
  · exact h2.elim
/-- the values of a display, in order -/
def amOf : List EM → AM
  | [] => mNil
  | m :: ms => mCons m (amOf ms)
/-- {'k': v, ..} that never changes -/
def mDisp (ks : List Str) (ms : List EM) : EM := fun σ st => (amOf ms σ st).nox.bind fun ws st1 => match pures ws with
  | some l => .ok (.p (.dk (ks.map .inr) l)) st1
  | none => .no
theorem mergeK_nodup : ∀ {more kvs : List (Key × V)}, ((kvs ++ more).map (·.1)).Nodup → mergeK kvs more = kvs ++ more
  | [], kvs, _ => by simp [mergeK]
  | p :: more, kvs, h => by
    have hk : (kvs.any fun kv => decide (kv.1 = p.1)) = false := by
      rw [List.any_eq_false]
      intro q hq e
      have e := of_decide_eq_true e
      rw [List.map_append, List.map_cons] at h
      exact (List.nodup_append.mp h).2.2 q.1 (List.mem_map.mpr ⟨q, hq, rfl⟩) p.1 List.mem_cons_self e
    have e1 : putK kvs p.1 p.2 = kvs ++ [p] := by
      unfold putK
      rw [hk]; rfl
    show mergeK (putK kvs p.1 p.2) more = _
    rw [e1, mergeK_nodup (by rw [List.append_assoc]; exact h), List.append_assoc]; rfl
theorem mergeK_nil {more : List (Key × V)} (h : (more.map (·.1)).Nodup) : mergeK [] more = more := by
  have := mergeK_nodup (more := more) (kvs := []) (by simpa using h)
  simpa using this
def trsOf (X : Cx) (ks : List Str) (es : List Expr) : List (TE × TE) := (ks.zip es).map fun q => (tC (.str q.1), T X q.2)
theorem SJ.pps {pos : Pos} {ms : List EM} {es : List Expr} (h : SJ K cl X Wx ms es) : ∀ {kes : List (Option Expr)} {ks : List Str}, Paired (fun (ke : Option Expr) (k : Str) => ∃ j p, ke = some (.Constant (.str k) j p)) kes ks → ks.length = es.length → PPs X pos kes es (trsOf X ks es) := by
  induction h with
  | nil =>
    intro kes ks hk hl
    cases hk with
    | nil => exact pps_nil
    | cons _ _ => cases hl
  | cons h r ih =>
    intro kes ks hk hl
    cases hk with
    | nil => cases hl
    | cons e hk =>
      obtain ⟨j, p, rfl⟩ := e
      exact pps_cons pe_str T.pe (ih hk (by simpa using hl))
theorem SJ.pairs {ms : List EM} {es : List Expr} (h : SJ K cl X Wx ms es) : ∀ {ks : List Str} {E0 E1 : En} {ρ : List Addr} {G : Hp} {st : List Cell} {H : Hp} {Qw : List W → List Cell → Res W} {Q : VK} {Z : ZX} {Q' : List (V × V) → Hp → Prop}, ks.length = es.length → (bs K cl E1).Rel ρ G st H → RS K cl ρ G σ τ →
    Aft (bs K cl E0) (bs K cl E0).RW ρ G ((amOf ms σ st).nox.bind Qw) Q Z →
    (∀ ws vs ρ' G' st' H', ρ <+: ρ' → Sub G G' → (bs K cl E1).Rel ρ' G' st' H' → RWs K cl ρ' G' ws vs → vs.length = ks.length → Aft (bs K cl E0) (bs K cl E0).RW ρ' G' (Qw ws st') Q Z → Q' ((ks.map V.str).zip vs) H') → tPairs (trsOf X ks es) τ H Q' := by
  induction h with
  | nil =>
    intro ks E0 E1 ρ G st H Qw Q Z Q' hl R S q k
    cases ks with
    | nil => exact k [] [] ρ G st H (List.prefix_refl _) (Sub.refl _) R .nil rfl q
    | cons _ _ => cases hl
  | @cons m e ms es h r ih =>
    intro ks E0 E1 ρ G st H Qw Q Z Q' hl R S q k
    cases ks with
    | nil => cases hl
    | cons k0 ks =>
      have q2 : Aft (bs K cl E0) (bs K cl E0).RW ρ G ((m σ st).nox.bind fun w st1 => (amOf ms σ st1).nox.bind fun ws st2 => Qw (w :: ws) st2) Q Z := by
        have e : (amOf (m :: ms) σ st).nox.bind Qw = ((m σ st).nox.bind fun w st1 => (amOf ms σ st1).nox.bind fun ws st2 => Qw (w :: ws) st2) := by
          show (((m σ st).bind fun w st1 => (amOf ms σ st1).bind fun ws st2 => .ok (w :: ws) st2).nox).bind Qw = _
          cases m σ st with
          | no => rfl
          | exc x s => rfl
          | ok w st1 =>
            show (((amOf ms σ st1).bind fun ws st2 => .ok (w :: ws) st2).nox).bind Qw = (amOf ms σ st1).nox.bind fun ws st2 => Qw (w :: ws) st2
            cases amOf ms σ st1 <;> rfl
        rw [← e]; exact q
      show tC (.str k0) τ H fun x H1 => T X e τ H1 fun y H2 => tPairs (trsOf X ks es) τ H2 fun ps H3 => Q' ((x, y) :: ps) H3
      refine h.run E1 ρ G σ st τ H _ R S (Aft.seqH q2 fun w st1 ρ1 G1 H1 v e1 p1 s1 R1 u1 q1 => ?_)
      refine ih (by simpa using hl) R1 (S.mono p1 s1) q1 fun ws vs ρ2 G2 st2 H2 p2 s2 R2 u2 hv q3 => ?_
      exact k (w :: ws) (v :: vs) ρ2 G2 st2 H2 (p1.trans p2) (s1.trans s2) R2 (.cons (RW.mono p2 s2 u1) u2) (by simp [hv]) q3
theorem zip_keys : ∀ (ks : List Str) (vs : List V), (ks.map V.str).zip vs = ((ks.map Sum.inr : List Key).zip vs).map fun kv => (kV kv.1, kv.2)
  | [], _ => rfl
  | _ :: _, [] => rfl
  | k :: ks, v :: vs => by
    show (V.str k, v) :: (ks.map V.str).zip vs = _
    rw [zip_keys ks vs]; rfl
theorem se_disp {ks : List Str} {ms : List EM} {es : List Expr} {kes : List (Option Expr)} {pos : Pos} (h : SJ K cl X Wx ms es) (hk : Paired (fun (ke : Option Expr) (k : Str) => ∃ j p, ke = some (.Constant (.str k) j p)) kes ks) (hl : ks.length = es.length) (nd : ks.Nodup) (h0 : kes ≠ []) (h15 : kes.length ≤ 15) (hall : kes.all (·.isSome) = true := by rfl) :
    SE K cl X Wx (mDisp ks ms) (.Dict kes es pos) := by
  have hkl := Paired.length hk
  refine ⟨fun E0 ρ G σ st τ H Q R S q => T.of (pe_disp (h.pps hk hl) hall (by omega) h0 h15) ?_⟩
  intro p hp
  have hn0 : ∀ i : Nat, i < E0.n0 → ρ[i]? ≠ some p := fun i _ => R.apart hp i
  refine h.pairs (E1 := E0.hold G p (.dK [])) hl (R.hold hp) S q fun ws vs ρ1 G1 st1 H1 p1 s1 R1 u1 hv q1 => ?_
  have keep : ∀ i : Nat, i < E0.n0 → ρ1[i]? = ρ[i]? := fun i hi => by
    obtain ⟨t, rfl⟩ := p1
    exact List.getElem?_append_left (Nat.lt_of_lt_of_le hi R.n0)
  obtain ⟨h1, h2, h3⟩ := Rel.held R1 (fun i hi => by rw [keep i hi]; exact hn0 i hi) (R.gnone hp)
  split at q1
  case h_2 => exact q1.elim
  rename_i l el
  have qq := u1.pures el
  refine ⟨h1, ((ks.map Sum.inr).zip vs), ?_, ?_, ?_⟩
  · exact zip_keys ks vs
  · rw [List.length_zip, List.length_map]; omega
  · rw [mergeK_nil (by rw [List.map_fst_zip (by rw [List.length_map]; omega)]; exact List.pairwise_map.mpr (nd.imp fun h e => h (Sum.inr.inj e)))]
    have R0 := Rel.unhold R1 (R.fresh0 hp) R.grow p1 R.n0
    have R2 := Rel.unhold (Rel.rehold (o' := .dK ((ks.map Sum.inr).zip vs)) R1 (po_of trivial) (fun i hi => by rw [keep i hi]; exact hn0 i hi) (R.gnone hp)) (R.fresh0 hp) (ρ0 := ρ1) R0.grow (List.prefix_refl _) (Nat.le_trans R.n0 p1.length_le)
    have R3 := Rel.adopt R2 upd_same h2 h3 (R.fresh0 hp)
    exact q1 ρ1 _ _ (.ref p) (List.prefix_refl _) (Sub.new h2) R3 (.dk upd_same (by rw [List.length_map]; omega) (qq.mono (Sub.new h2)))

/-! ### join -/
def strsOf : List P → Option (List Str)
  | [] => some []
  | .str z :: l => match strsOf l with
    | some m => some (z :: m)
    | none => none
  | _ => none
theorem strsOf_eq : ∀ {l : List P} {m : List Str}, strsOf l = some m → l = m.map P.str
  | [], m, e => by rw [strsOf] at e; cases e; rfl
  | .str i :: l, m, e => by
    rw [strsOf] at e
    split at e
    · rename_i k ek; cases e; rw [strsOf_eq ek]; rfl
    · cases e
  | .non :: _, _, e | .bl _ :: _, _, e | .int _ :: _, _, e | .tup _ :: _, _, e | .lst _ :: _, _, e | .scr _ :: _, _, e | .dk _ _ :: _, _, e | .obj _ _ :: _, _, e | .exn _ _ :: _, _, e => by
    unfold strsOf at e; cases e
theorem RPs.of_strs : ∀ {l : List Str} {vs : List V}, RPs K cl G (l.map P.str) vs → vs = l.map V.str
  | [], _, .nil => rfl
  | i :: l, _, .cons h r => by
    cases h
    rw [RPs.of_strs r]; rfl
def vJoin (w : W) (ws : List W) (st : List Cell) : Res W := match w, ws with
  | .p (.str a), [x] => match (seqP st x).bind strsOf with
    | some ys => if (ys.map (·.length)).sum + ys.length * a.length ≤ LIM then .ok (.p (.str (Txt.join a ys))) st else .no
    | none => .no
  | _, _ => .no
def rJoin (K : PySem.W.Frag) : V → List V → Hp → VK → Prop := fun x xs H Q => ∃ a p, ∃ ys : List Str, x = .str a ∧ xs = [.ref p] ∧ (SqL K H p (ys.map V.str) ∨ SqT K H p (ys.map V.str)) ∧
    (ys.map (·.length)).sum + ys.length * a.length ≤ 16777216 ∧ Q (.str (Txt.join a ys)) H
theorem vJoin_ok : VMt K cl vJoin (rJoin K) := by
  intro E0 ρ G st H w v ws vs Q Z R r rs h
  unfold vJoin at h
  split at h
  · rename_i a x
    cases r
    obtain ⟨u, rfl, ru⟩ := rs.one
    split at h
    · rename_i ys ey
      cases e1 : seqP st x with
      | none => rw [e1] at ey; cases ey
      | some l =>
        rw [e1] at ey
        obtain ⟨b, us, rfl, h1, q⟩ := seqP_ok R ru e1
        have := strsOf_eq (show strsOf l = some ys from ey)
        subst this
        rw [q.of_strs] at h1
        split at h
        · rename_i hl
          exact ⟨a, b, ys, rfl, rfl, h1, by unfold LIM at hl; omega, h.here R (RP.str _)⟩
        · exact h.elim
    · exact h.elim
  · exact h.elim

/-! ### ~ of an instance -/
theorem pe_inv {C f : Addr} {fd : FuncData} {ps : List Str} {sp : Sp} {k : Nat} {e : Expr} {pos : Pos} (hmt : Meth X.K C "__invert__" f) (Fk : FnOk X.prog X.w X.K X.mg X.base CX0 k f fd ps sp) (hr : Room k X.A) (hb : Binds X.K fd ps []) :
    PE X (.UnaryOp .Invert e pos) (fun τ H Q => T X e τ H fun x H1 => ∃ a dx fs, x = .ref a ∧ H1 a = some (.ins C dx fs) ∧ sp [.ref a] H1 Q L2.E0) := by
  refine ⟨fun pins s σ H Q I h => ?_⟩
  refine wpAny_UnaryOp (thn (h pins s I) fun v s1 ⟨x, H1, I1, r1, a, dx, fs, ex, eH, q⟩ => ?_)
  subst ex
  cases r1
  obtain ⟨mA, O, _⟩ := ins_get I1.hok eH
  obtain ⟨od, J, _⟩ := O.look
  unfold unaryOp
  refine wpAny_holding (wpAny_bind (PySem.W.special_fn I1.kIn J hmt.at_ (beq_iff_eq.mp hmt.fn) ?_))
  refine wpAny_mono (run_fn (E := L2.E0) (us := [.ref a]) (vs := [.ref a]) Fk hr hb .nil pass0 I1 (.cons rfl .nil) q) (fun _ _ z => wpAny_pure z) fun _ _ z => z
def mInv (c : Nat) (F : FM) (a : EM) : EM := fun σ st => (a σ st).bind fun w st1 => if clsOf st1 w = some c then (callF F [w] st1).nox else .no
theorem se_inv {C f : Addr} {fd : FuncData} {ps : List Str} {k c : Nat} {ns : List Str} {F : FM} {a : EM} {e : Expr} {pos : Pos} (hC : cl[c]? = some (C, ns)) (hmt : Meth X.K C "__invert__" f) (Fk : FnOk X.prog X.w X.K X.mg X.base CX0 k f fd ps (spF K cl F)) (hr : Room k X.A) (hb : Binds X.K fd ps [])
    (ha : SE K cl X Wx a e) : SE K cl X Wx (mInv c F a) (.UnaryOp .Invert e pos) := by
  refine ⟨fun E0 ρ G σ st τ H Q R S h => T.of (pe_inv hmt Fk hr hb) ?_⟩
  refine ha.run E0 ρ G σ st τ H _ R S (Aft.seq h fun w st1 ρ1 G1 H1 v e1 p1 s1 R1 u1 h1 => ?_)
  split at h1
  case isFalse => exact h1.elim
  rename_i ec
  obtain ⟨b, dx, vs, rfl, hH⟩ := clsOf_ok R1 u1 ec hC
  exact ⟨b, dx, _, rfl, hH, callF_ok R1 (.cons u1 .nil) (ws := [w]) (vs := [.ref b]) h1.noxZ⟩
end
end Y

/-! Y14: what the printed proofs name. -/
namespace Y
open PySem PySem.Spec PyProof.Rows L2
section
variable {K : PySem.W.Frag} {cl : Cls} {X : Cx} {Wx : WX} {E0 : En} {ρ ρ' : List Addr} {G G' : Hp} {σ : Sg} {τ : L2.St} {st : List Cell} {H : Hp} {D : Ends}
/-- a def of the program, no exception out of it -/
structure Fk (P : Program) (w : World) (K : PySem.W.Frag) (mg : Str → Option Value) (base : Heap) (cl : Cls) (k : Nat) (f : Addr) (ps : List Str) (F : FM) : Prop where
  ex : ∃ fd, FnOk P w K mg base CX0 k f fd ps (spF K cl F) ∧ Binds K fd ps []
  kp : PySem.W.keepIn K (.ref f) = true
theorem Fk.of {P : Program} {w : World} {mg : Str → Option Value} {base : Heap} {N ps : List Str} {x qual : Str} {params : Arguments} {body : List Stmt} {scope : Scope} {f : Addr} {k : Nat} {m : SMm}
    (F : ∃ fd, FunD K x qual params body scope [] [] f fd) (S : FnScope N ps scope) (bd : ∀ (kV doc pm : Value) (an : Option Addr) (cdv ct : Value) (us : List Value), us.length = ps.length → bindArgs (PySem.W.fnOf x qual params body scope .none kV doc pm an cdv ct) ⟨us, []⟩ = pure (ps.zip us))
    (hb : ∀ (cd : Value) (A : Around) (outer : List Env) (s : Shared) (H : Hp) (E : XK), GX K (cxD P w K mg base N qual scope f cd A outer s H E) → Room k (A.deeper (envOfC qual scope s.heap.objs.size f cd)) → SSs K cl (cxD P w K mg base N qual scope f cd A outer s H E) WF m body) :
    Fk P w K mg base cl (k + 1) f ps (runF ps.length N.length m) := by
  obtain ⟨fd, F⟩ := F
  exact ⟨⟨fd, fn_ok F S fun cd A outer s H E hr => hb cd A outer s H E (gx_of S hr) hr, F.bindsN bd⟩, F.kp⟩
/-- nothing is known of it, and it is not called -/
theorem Fk.zero {P : Program} {w : World} {mg : Str → Option Value} {base : Heap} {N ps : List Str} {x qual : Str} {params : Arguments} {body : List Stmt} {scope : Scope} {f : Addr} {F' : FM} (h : ∀ ws st, F' ws st = .no)
    (F : ∃ fd, FunD K x qual params body scope [] [] f fd) (bd : ∀ (kV doc pm : Value) (an : Option Addr) (cdv ct : Value) (us : List Value), us.length = ps.length → bindArgs (PySem.W.fnOf x qual params body scope .none kV doc pm an cdv ct) ⟨us, []⟩ = pure (ps.zip us)) : Fk P w K mg base cl 0 f ps F' := by
  obtain ⟨fd, F⟩ := F
  refine ⟨⟨fd, ⟨fun vs H Q E q => ?_, fun A outer s H args us vs Q E hr he hb hv q => ?_⟩, F.bindsN bd⟩, F.kp⟩
  · obtain ⟨ρ0, G0, st0, ws, R, r, a⟩ := q
    rw [h] at a; exact a.elim
  · obtain ⟨ρ0, G0, st0, ws, R, r, a⟩ := q
    rw [h] at a; exact a.elim
theorem Fk.mono {P : Program} {w : World} {mg : Str → Option Value} {base : Heap} {j k : Nat} {f : Addr} {ps : List Str} {F : FM} (h : Fk P w K mg base cl j f ps F) (q : j ≤ k) : Fk P w K mg base cl k f ps F := by
  obtain ⟨⟨fd, h1, h2⟩, h3⟩ := h
  exact ⟨⟨fd, h1.mono q, h2⟩, h3⟩
/-- a cell becomes data -/
theorem Rel.freeze (R : Rel K cl E0 ρ G st H) {i : Nat} {c : Cell} {a : Addr} {o : HO} (h : st[i]? = some c) (hc : c ≠ .dead) (ha : ρ[i]? = some a) (ho : H a = some o) (nt : NT o := by intro _ z; cases z) : Rel K cl E0 ρ (upd G a o) (st.set i .dead) H := by
  have hi : i < st.length := (List.getElem?_eq_some_iff.mp h).1
  have ga : G a = none := (R.sep i c a h ha).resolve_left hc
  have same : ∀ (j : Nat) b, ρ[j]? = some b → b = a → j = i := fun j b e z => by
    subst z
    have h1 := List.getElem?_eq_some_iff.mp e
    have h2 := List.getElem?_eq_some_iff.mp ha
    exact (List.getElem_inj (h₀ := h1.1) (h₁ := h2.1) R.nd).mp (h1.2.trans h2.2.symm)
  refine ⟨by rw [List.length_set]; exact R.len, R.nd, fun j e b e1 e2 => ?_, fun j e b e1 e2 => ?_, fun b u e => ?_, R.old, R.new, R.n0, fun b u e => ?_, R.ent, fun b u e => by
    by_cases z : b = a
    · subst z; rw [upd_same] at e; cases e; exact nt
    · rw [upd_ne z] at e; exact R.gnt b u e, R.tabs⟩
  · by_cases hj : j = i
    · subst hj
      rw [List.getElem?_set_self hi] at e1
      rw [ha] at e2
      cases e1; cases e2; exact ⟨o, upd_same⟩
    · rw [List.getElem?_set_ne (Ne.symm hj)] at e1
      exact (R.cell j e b e1 e2).mono (List.prefix_refl _) (Sub.new ga) rfl
  · by_cases hj : j = i
    · subst hj
      rw [List.getElem?_set_self hi] at e1
      cases e1; exact .inl rfl
    · rw [List.getElem?_set_ne (Ne.symm hj)] at e1
      rw [upd_ne fun z => hj (same j b e2 z)]
      exact R.sep j e b e1 e2
  · by_cases z : b = a
    · subst z; rw [upd_same] at e; cases e; exact ho
    · rw [upd_ne z] at e; exact R.sub b u e
  · by_cases z : b = a
    · subst z
      by_cases hn : i < E0.n0
      · exact .inr (.inr ⟨i, hn, ha⟩)
      · exact .inr (.inl (R.new i b (by omega) ha))
    · rw [upd_ne z] at e; exact R.grow b u e
/-- the list is not written any more -/
def mFrz (a : EM) : EM := fun σ st => (a σ st).bind fun w st1 => match w with
  | .p x => .ok (.p x) st1
  | .r i => match st1[i]? with
    | some (.lst l) => match pures l with
      | some m => .ok (.p (.lst m)) (st1.set i .dead)
      | none => .no
    | _ => .no
theorem se_frz {a : EM} {e : Expr} (ha : SE K cl X Wx a e) : SE K cl X Wx (mFrz a) e := by
  refine ⟨fun E0 ρ G σ st τ H Q R S h => ha.run E0 ρ G σ st τ H Q R S ?_⟩
  refine Aft.seq h fun w st1 ρ1 G1 H1 v e1 p1 s1 R1 u1 h1 => ?_
  cases w with
  | p x => exact h1.here R1 u1
  | r i =>
    have h1 : Aft (bs K cl E0) (bs K cl E0).RW ρ1 G1 (match st1[i]? with
      | some (.lst l) => match pures l with
        | some m => .ok (.p (.lst m)) (st1.set i .dead)
        | none => .no
      | _ => .no) Q _ := h1
    split at h1
    · rename_i l el
      split at h1
      · rename_i m em
        obtain ⟨b, hb, rfl⟩ := u1
        obtain ⟨b2, hb2, ⟨vs, g1, g2⟩, hd⟩ := R1.at el
        cases Option.some.inj (hb.symm.trans hb2)
        have gb : G1 b = none := hd.resolve_left (fun z => by cases z)
        exact h1 ρ1 (upd G1 b _) H1 (.ref b) (List.prefix_refl _) (Sub.new gb) (R1.freeze el (fun z => by cases z) hb g1) (.lst upd_same ((g2.pures em).mono (Sub.new gb)))
      · exact h1.elim
    · exact h1.elim
def vis (sc : Scope) (x : Str) : Bool := match sc.names.lookup x with
  | some .local => true
  | some .cell => true
  | some .free => true
  | _ => false
theorem vis_ok {sc : Scope} {x : Str} (h : vis sc x = true) : Vis sc x := by
  unfold vis at h
  split at h
  · exact .inl (by assumption)
  · exact .inr (.inl (by assumption))
  · exact .inr (.inr (by assumption))
  · cases h
def loc (sc : Scope) (x : Str) : Bool := match sc.names.lookup x with
  | some .local => true
  | some .cell => true
  | _ => false
theorem loc_ok {sc : Scope} {x : Str} (h : loc sc x = true) : Loc sc x := by
  unfold loc at h
  split at h
  · exact .inl (by assumption)
  · exact .inr (by assumption)
  · cases h
/-- a name's value -/
theorem v {i : Nat} {x : Str} {pos : Pos} (hN : X.N[i]? = some x) (hv : vis X.env.scope x = true) (hd : ((x == ("__debug__" : Str)) || (x == ("__classdict__" : Str))) = false) : SE K cl X Wx (mVar i) (.Name x pos) := by
  rw [Bool.or_eq_false_iff] at hd
  exact se_var hN (vis_ok hv) hd.1 hd.2
theorem callK {f : Addr} {ps : List Str} {F : FM} {a : AM} {k : Nat} {x : Str} {p pos : Pos} {e : Expr} {es : List Expr} (h : Fk X.prog X.w X.K X.mg X.base cl k f ps F) (g : GX K X) (hr : Room k X.A) (hg : Gl X x) (hm : X.mg x = some (.ref f))
    (ha : SA K cl X Wx a (e :: es)) (hdb : (x == ("__debug__" : Str)) = false) (he : starEach (e :: es) X.env = (false, eval e X.env) :: starEach es X.env := by rfl) (hpl : (backTo pos (starEach es X.env)).any (·.1) = false := by rfl) :
    SE K cl X Wx (mCallF F a) (.Call (.Name x p) (e :: es) [] pos) := by
  obtain ⟨hK, _⟩ := g
  subst hK
  obtain ⟨fd, h1, h2⟩ := h.ex
  exact se_call h1 hr hg hm h.kp h2 ha hdb he hpl
theorem callK0 {f : Addr} {ps : List Str} {F : FM} {k : Nat} {x : Str} {p pos : Pos} (h : Fk X.prog X.w X.K X.mg X.base cl k f ps F) (g : GX K X) (hr : Room k X.A) (hg : Gl X x) (hm : X.mg x = some (.ref f)) (hdb : (x == ("__debug__" : Str)) = false) :
    SE K cl X Wx (mCallF F mNil) (.Call (.Name x p) [] [] pos) := by
  obtain ⟨hK, _⟩ := g
  subst hK
  obtain ⟨fd, h1, h2⟩ := h.ex
  exact se_call0 h1 hr hg hm h.kp h2 hdb
theorem methK {f C : Addr} {ns : List Str} {c : Nat} {ps : List Str} {F : FM} {o : EM} {eo : Expr} {a : AM} {k : Nat} {m : Str} {apos pos : Pos} {e : Expr} {es : List Expr} {pl : Sem Bool} (h : Fk X.prog X.w X.K X.mg X.base cl k f ps F) (g : GX K X) (hr : Room k X.A) (hC : cl[c]? = some (C, ns)) (hn : ns.contains m = false) (kc : L2.Cls K C) (hmt : Meth K C m f)
    (ho : SE K cl X Wx o eo) (ha : SA K cl X Wx a (e :: es))
    (hst : starEach (e :: es) X.env = (false, eval e X.env) :: starEach es X.env := by rfl) (hpl : (backTo pos (starEach es X.env)).any (·.1) = false := by rfl)
    (ht : eval (.Call (.Attribute eo m apos) (e :: es) [] pos) X.env = (do
      let ov ← eval eo X.env
      standAt apos.atName
      let (f, first) ← holding [ov] (getMethod ov m pl)
      callWith pos f first (backTo pos (starEach (e :: es) X.env)) (backToKw pos (keywordEach [] X.env))) := by rfl) : SE K cl X Wx (mMeth c F o a) (.Call (.Attribute eo m apos) (e :: es) [] pos) := by
  obtain ⟨hK, _⟩ := g
  subst hK
  obtain ⟨fd, h1, h2⟩ := h.ex
  exact se_meth hC (fun z => by rw [List.contains_iff_mem.mpr z] at hn; cases hn) kc hmt h1 hr h2 ho ha hst hpl ht
theorem methK0 {f C : Addr} {ns : List Str} {c : Nat} {ps : List Str} {F : FM} {o : EM} {eo : Expr} {k : Nat} {m : Str} {apos pos : Pos} {pl : Sem Bool} (h : Fk X.prog X.w X.K X.mg X.base cl k f ps F) (g : GX K X) (hr : Room k X.A) (hC : cl[c]? = some (C, ns)) (hn : ns.contains m = false) (kc : L2.Cls K C) (hmt : Meth K C m f)
    (ho : SE K cl X Wx o eo)
    (ht : eval (.Call (.Attribute eo m apos) [] [] pos) X.env = (do
      let ov ← eval eo X.env
      standAt apos.atName
      let (f, first) ← holding [ov] (getMethod ov m pl)
      callWith pos f first (backTo pos (starEach [] X.env)) (backToKw pos (keywordEach [] X.env))) := by rfl) : SE K cl X Wx (mMeth c F o mNil) (.Call (.Attribute eo m apos) [] [] pos) := by
  obtain ⟨hK, _⟩ := g
  subst hK
  obtain ⟨fd, h1, h2⟩ := h.ex
  exact se_meth0 hC (fun z => by rw [List.contains_iff_mem.mpr z] at hn; cases hn) kc hmt h1 hr h2 ho ht
theorem makeK {f C : Addr} {ns : List Str} {c n : Nat} {ps : List Str} {F : FM} {a : AM} {k : Nat} {x : Str} {p pos : Pos} {e : Expr} {es : List Expr} (h : Fk X.prog X.w X.K X.mg X.base cl k f ps F) (g : GX K X) (hr : Room (k + 1) X.A) (hC : cl[c]? = some (C, ns)) (hn : ns.length = n) (M : Mk K C f) (hg : Gl X x) (hm : X.mg x = some (.ref C))
    (ha : SA K cl X Wx a (e :: es)) (hdb : (x == ("__debug__" : Str)) = false) (he : starEach (e :: es) X.env = (false, eval e X.env) :: starEach es X.env := by rfl) (hpl : (backTo pos (starEach es X.env)).any (·.1) = false := by rfl) :
    SE K cl X Wx (mMake c n F a) (.Call (.Name x p) (e :: es) [] pos) := by
  obtain ⟨hK, _⟩ := g
  subst hK
  obtain ⟨fd, h1, h2⟩ := h.ex
  exact se_make hC hn M h1 hr hg hm h2 ha hdb he hpl
theorem invK {f C : Addr} {ns : List Str} {c : Nat} {ps : List Str} {F : FM} {a : EM} {k : Nat} {pos : Pos} {e : Expr} (h : Fk X.prog X.w X.K X.mg X.base cl k f ps F) (g : GX K X) (hr : Room k X.A) (hC : cl[c]? = some (C, ns)) (hmt : Meth K C "__invert__" f) (ha : SE K cl X Wx a e) :
    SE K cl X Wx (mInv c F a) (.UnaryOp .Invert e pos) := by
  obtain ⟨hK, _⟩ := g
  subst hK
  obtain ⟨fd, h1, h2⟩ := h.ex
  exact se_inv hC hmt h1 hr h2 ha
/-! comparisons as tests -/
section
variable {a b : EM} {pa pb : Expr} {pos : Pos}
theorem st_eq (g : GX K X) (ha : SE K cl X Wx a pa) (hb : SE K cl X Wx b pb) (hm : behindInMarks .Eq pb = false := by rfl) : ST K cl X Wx (mTst (mBin (vEqB false) a b)) (.Compare pa [.Eq] [pb] pos) := by
  obtain ⟨hK, hc, hN, hu, hh⟩ := g
  subst hK
  exact st_cmp (op_eqA (by omega)) hm vEq_ok ha hb
theorem st_ne (g : GX K X) (ha : SE K cl X Wx a pa) (hb : SE K cl X Wx b pb) (hm : behindInMarks .NotEq pb = false := by rfl) : ST K cl X Wx (mTst (mBin (vEqB true) a b)) (.Compare pa [.NotEq] [pb] pos) := by
  obtain ⟨hK, hc, hN, hu, hh⟩ := g
  subst hK
  exact st_cmp (op_neA (by omega)) hm vNe_ok ha hb
theorem st_in (g : GX K X) (ha : SE K cl X Wx a pa) (hb : SE K cl X Wx b pb) (hm : behindInMarks .In pb = false := by rfl) : ST K cl X Wx (mTst (mBin (vInB false) a b)) (.Compare pa [.In] [pb] pos) := by
  obtain ⟨hK, _, _, hu, _⟩ := g
  subst hK
  exact st_cmp (op_inA hu) hm vIn_ok ha hb
theorem st_notIn (g : GX K X) (ha : SE K cl X Wx a pa) (hb : SE K cl X Wx b pb) (hm : behindInMarks .NotIn pb = false := by rfl) : ST K cl X Wx (mTst (mBin (vInB true) a b)) (.Compare pa [.NotIn] [pb] pos) := by
  obtain ⟨hK, _, _, hu, _⟩ := g
  subst hK
  exact st_cmp (op_notInA hu) hm vIn_ok ha hb
theorem st_lt (ha : SE K cl X Wx a pa) (hb : SE K cl X Wx b pb) (hm : behindInMarks .Lt pb = false := by rfl) : ST K cl X Wx (mTst (mBin vLt a b)) (.Compare pa [.Lt] [pb] pos) := st_cmp op_lt hm vLt_ok ha hb
theorem st_le (ha : SE K cl X Wx a pa) (hb : SE K cl X Wx b pb) (hm : behindInMarks .LtE pb = false := by rfl) : ST K cl X Wx (mTst (mBin vLe a b)) (.Compare pa [.LtE] [pb] pos) := st_cmp op_le hm vLe_ok ha hb
theorem st_gt (ha : SE K cl X Wx a pa) (hb : SE K cl X Wx b pb) (hm : behindInMarks .Gt pb = false := by rfl) : ST K cl X Wx (mTst (mBin vGt a b)) (.Compare pa [.Gt] [pb] pos) := st_cmp op_gt hm vGt_ok ha hb
theorem st_ge (ha : SE K cl X Wx a pa) (hb : SE K cl X Wx b pb) (hm : behindInMarks .GtE pb = false := by rfl) : ST K cl X Wx (mTst (mBin vGe a b)) (.Compare pa [.GtE] [pb] pos) := st_cmp op_ge hm vGe_ok ha hb
theorem st_is (ha : SE K cl X Wx a pa) (hb : SE K cl X Wx b pb) (hm : behindInMarks .Is pb = false := by rfl) : ST K cl X Wx (mTst (mBin (vIsN false) a b)) (.Compare pa [.Is] [pb] pos) := st_cmp op_isN hm vIs_ok ha hb
theorem st_isNot (ha : SE K cl X Wx a pa) (hb : SE K cl X Wx b pb) (hm : behindInMarks .IsNot pb = false := by rfl) : ST K cl X Wx (mTst (mBin (vIsN true) a b)) (.Compare pa [.IsNot] [pb] pos) := st_cmp op_notN hm vIsNot_ok ha hb
theorem tabT_core {neg : Bool} {op : CmpOp} {d : Addr} {kvs : List (Str × Str)} {x : Str} {p : Pos} (g : GX K X) (tb : KTab K X.w d kvs)
    (ho : ∀ es n, KDict X.K X.w d es n → OpR X (compareOp op) (fun x y H Q => ∃ (z : Str) (r : Option Value), x = .str z ∧ y = .ref d ∧ PySem.W.nsIn X.K d z = some r ∧ Q (.bl (if neg = true then !r.isSome else r.isSome)) H))
    (hg : Gl X x) (hm : X.mg x = some (.ref d)) (hd : (x == ("__debug__" : Str)) = false) (hb : behindInMarks op (.Name x p) = false) (ha : SE K cl X Wx a pa) : ST K cl X Wx (mTst (mInT kvs neg a)) (.Compare pa [op] [.Name x p] pos) := by
  obtain ⟨hK, _⟩ := g
  subst hK
  obtain ⟨es, n, kd⟩ := tb.kd
  refine ⟨fun E0 ρ G σ st τ H Q R S h => TT'.of (pt_cmpR (ho es n kd) T.pe (pe_gref hg hm hd) hb) ?_⟩
  unfold mTst mInT at h
  rw [Res.bind_bind] at h
  refine ha.run E0 ρ G σ st τ H _ R S (Aft.seq h fun w st1 ρ1 G1 H1 v e1 p1 s1 R1 u1 h1 => ?_)
  cases w with
  | r i => exact h1.elim
  | p y =>
    cases y with
    | str z =>
      cases u1
      obtain ⟨r, hr, hs⟩ := tb.in_ z
      refine ⟨z, r, rfl, rfl, hr, ?_⟩
      rw [hs]
      exact ⟨_, rfl, Aft.here h1 R1 rfl⟩
    | _ => exact h1.elim
theorem st_inT {d : Addr} {kvs : List (Str × Str)} {x : Str} {p : Pos} (g : GX K X) (tb : KTab K X.w d kvs) (hg : Gl X x) (hm : X.mg x = some (.ref d)) (hd : (x == ("__debug__" : Str)) = false) (ha : SE K cl X Wx a pa) : ST K cl X Wx (mTst (mInT kvs false a)) (.Compare pa [.In] [.Name x p] pos) :=
  tabT_core g tb (fun es n kd => op_in_kd kd) hg hm hd rfl ha
theorem st_notInT {d : Addr} {kvs : List (Str × Str)} {x : Str} {p : Pos} (g : GX K X) (tb : KTab K X.w d kvs) (hg : Gl X x) (hm : X.mg x = some (.ref d)) (hd : (x == ("__debug__" : Str)) = false) (ha : SE K cl X Wx a pa) : ST K cl X Wx (mTst (mInT kvs true a)) (.Compare pa [.NotIn] [.Name x p] pos) :=
  tabT_core g tb (fun es n kd => op_notIn_kd kd) hg hm hd rfl ha
end
/-- an item of a list, a tuple, a text -/
theorem ixK {a b : EM} {pa pb : Expr} {pos : Pos} (g : GX K X) (hs : PlainIx pb) (ha : SE K cl X Wx a pa) (hb : SE K cl X Wx b pb) : SE K cl X Wx (mBin vIx a b) (.Subscript pa pb pos) := by
  obtain ⟨hK, _⟩ := g
  subst hK
  exact se_ix ixRA vIx_ok hs ha hb
where ixRA : IxR X (rIx X.K) := (IxR.or ix_list (IxR.or ix_tup ix_str))
end
end Y

/-! Y15: keywords; tuples of the module; a try that runs through; methods of one of several classes. -/
namespace Y
open PySem PySem.Spec PyProof.Rows L2

/-! ### keywords: all of a call's values by keywords, in any order -/
/-- the positional values, then the keywords' values in the parameters' order -/
def gI (ix : List Nat) {α : Type} (us ws : List α) : List α := us ++ ix.filterMap fun i => ws[i]?
theorem vals_get {xs : List V} {us : List Value} (r : Vals xs us) (i : Nat) : (xs[i]? = none ∧ us[i]? = none) ∨ ∃ x u, xs[i]? = some x ∧ us[i]? = some u ∧ RelV x u := by
  cases h : xs[i]? with
  | none =>
    left
    refine ⟨rfl, List.getElem?_eq_none ?_⟩
    rw [← r.length]; exact List.getElem?_eq_none_iff.mp h
  | some x =>
    obtain ⟨u, h1, h2⟩ := r.get h
    exact .inr ⟨x, u, rfl, h1, h2⟩
theorem gI_vals (ix : List Nat) {vs : List V} {us : List Value} {zs : List V} {ws : List Value} (r : Vals vs us) (r2 : Vals zs ws) : Vals (gI ix vs zs) (gI ix us ws) := by
  refine r.append ?_
  induction ix with
  | nil => exact .nil
  | cons i ix ih =>
    rcases vals_get r2 i with ⟨h1, h2⟩ | ⟨x, u, h1, h2, h3⟩
    · rw [List.filterMap_cons, List.filterMap_cons, h1, h2]; exact ih
    · rw [List.filterMap_cons, List.filterMap_cons, h1, h2]; exact .cons h3 ih
section
variable {K : PySem.W.Frag} {x qual : Str} {params : Arguments} {body : List Stmt} {scope : Scope} {f : Addr} {fd : FuncData} {ps ks : List Str}
theorem FunD.kbindsI (F : FunD K x qual params body scope [] [] f fd) (n : Nat) (ix : List Nat)
    (h : ∀ (kV doc pm : Value) (an : Option Addr) (cdv ct : Value) (us ws : List Value), us.length = n → ws.length = ks.length → bindArgs (PySem.W.fnOf x qual params body scope .none kV doc pm an cdv ct) ⟨us, ks.zip ws⟩ = pure (ps.zip (gI ix us ws))) : KBn K fd ps n ks (gI ix) (gI ix) := by
  refine ⟨fun s us ws _ l1 l2 => ?_, fun r1 r2 => gI_vals ix r1 r2⟩
  obtain ⟨oc, od, dV, kV, doc, pm, an, cdv, ct, osl, rfl, lk, hcd, hD, hK⟩ := F.ex
  rcases hD with ⟨_, rfl⟩ | ⟨e, _⟩
  · exact .of_eq (h kV doc pm an cdv ct us ws l1 l2)
  · exact absurd rfl e
end
/-- a def with what its keywords do -/
structure Fk2 (Wk : FuncData → Prop) (P : Program) (w : World) (K : PySem.W.Frag) (mg : Str → Option Value) (base : Heap) (cl : Cls) (k : Nat) (f : Addr) (ps : List Str) (F : FM) : Prop where
  ex : ∃ fd, FnOk P w K mg base CX0 k f fd ps (spF K cl F) ∧ Binds K fd ps [] ∧ Wk fd
  kp : PySem.W.keepIn K (.ref f) = true
section
variable {K : PySem.W.Frag} {cl : Cls} {X : Cx} {Wx : WX} {E0 : En} {ρ ρ' : List Addr} {G G' : Hp} {σ : Sg} {τ : L2.St} {st : List Cell} {H : Hp} {D : Ends}
theorem Fk2.fk {Wk : FuncData → Prop} {P : Program} {w : World} {mg : Str → Option Value} {base : Heap} {k : Nat} {f : Addr} {ps : List Str} {F : FM} (h : Fk2 Wk P w K mg base cl k f ps F) : Fk P w K mg base cl k f ps F :=
  ⟨by obtain ⟨fd, h1, h2, _⟩ := h.ex; exact ⟨fd, h1, h2⟩, h.kp⟩
theorem Fk2.of {Wk : FuncData → Prop} {P : Program} {w : World} {mg : Str → Option Value} {base : Heap} {N ps : List Str} {x qual : Str} {params : Arguments} {body : List Stmt} {scope : Scope} {f : Addr} {k : Nat} {m : SMm}
    (F : ∃ fd, FunD K x qual params body scope [] [] f fd) (S : FnScope N ps scope) (bd : ∀ (kV doc pm : Value) (an : Option Addr) (cdv ct : Value) (us : List Value), us.length = ps.length → bindArgs (PySem.W.fnOf x qual params body scope .none kV doc pm an cdv ct) ⟨us, []⟩ = pure (ps.zip us))
    (hw : ∀ fd, FunD K x qual params body scope [] [] f fd → Wk fd)
    (hb : ∀ (cd : Value) (A : Around) (outer : List Env) (s : Shared) (H : Hp) (E : XK), GX K (cxD P w K mg base N qual scope f cd A outer s H E) → Room k (A.deeper (envOfC qual scope s.heap.objs.size f cd)) → SSs K cl (cxD P w K mg base N qual scope f cd A outer s H E) WF m body) :
    Fk2 Wk P w K mg base cl (k + 1) f ps (runF ps.length N.length m) := by
  obtain ⟨fd, F⟩ := F
  exact ⟨⟨fd, fn_ok F S fun cd A outer s H E hr => hb cd A outer s H E (gx_of S hr) hr, F.bindsN bd, hw fd F⟩, F.kp⟩
/-- the keywords' values -/
def tKw (X : Cx) : List Keyword → TA
  | [] => tNil
  | k :: ks => tCons (T X k.value) (tKw X ks)
theorem pk_kw : ∀ kws : List Keyword, PK X kws (tKw X kws)
  | [] => pk_nil
  | ⟨nm, e, p⟩ :: kws => pk_cons T.pe (pk_kw kws)
structure SK (K : PySem.W.Frag) (cl : Cls) (X : Cx) (Wx : WX) (m : AM) (kws : List Keyword) : Prop where
  run : ∀ E0 ρ G σ st τ H Q, (bs K cl E0).Rel ρ G st H → RS K cl ρ G σ τ → Aft (bs K cl E0) (bs K cl E0).RWs ρ G (m σ st) Q (fun c d H' => Wx c d τ H') → tKw X kws τ H Q
theorem sk_nil : SK K cl X Wx mNil [] := ⟨fun E0 ρ G σ st τ H Q R S h => h.here R .nil⟩
theorem sk_cons {a : EM} {r : AM} {nm : Option Str} {e : Expr} {p : Pos} {kws : List Keyword} (ha : SE K cl X Wx a e) (hr : SK K cl X Wx r kws) : SK K cl X Wx (mCons a r) (⟨nm, e, p⟩ :: kws) := by
  refine ⟨fun E0 ρ G σ st τ H Q R S h => ?_⟩
  refine ha.run E0 ρ G σ st τ H _ R S (Aft.seq h fun x st1 ρ1 G1 H1 v e1 p1 s1 R1 u1 h1 => ?_)
  refine hr.run E0 ρ1 G1 σ st1 τ H1 _ R1 (S.mono p1 s1) (Aft.seq h1 fun xs st2 ρ2 G2 H2 vs e2 p2 s2 R2 u2 h2 => ?_)
  exact h2.here R2 (.cons (RW.mono p2 s2 u1) u2)
theorem rws_get {l : List W} {vs : List V} (r : RWs K cl ρ G l vs) (i : Nat) : (l[i]? = none ∧ vs[i]? = none) ∨ ∃ x u, l[i]? = some x ∧ vs[i]? = some u ∧ RW K cl ρ G x u := by
  cases h : l[i]? with
  | none =>
    left
    refine ⟨rfl, List.getElem?_eq_none ?_⟩
    rw [← r.length]; exact List.getElem?_eq_none_iff.mp h
  | some x =>
    obtain ⟨u, h1, h2⟩ := r.get h
    exact .inr ⟨x, u, rfl, h1, h2⟩
theorem gI_rws (ix : List Nat) {l k : List W} {vs us : List V} (r : RWs K cl ρ G l vs) (r2 : RWs K cl ρ G k us) : RWs K cl ρ G (gI ix l k) (gI ix vs us) := by
  refine r.append ?_
  induction ix with
  | nil => exact .nil
  | cons i ix ih =>
    rcases rws_get r2 i with ⟨h1, h2⟩ | ⟨x, u, h1, h2, h3⟩
    · rw [List.filterMap_cons, List.filterMap_cons, h1, h2]; exact ih
    · rw [List.filterMap_cons, List.filterMap_cons, h1, h2]; exact .cons h3 ih
section
variable {f C : Addr} {fd : FuncData} {ps ks : List Str} {F : FM} {o : EM} {eo e : Expr} {es : List Expr} {a : AM} {k c n nk : Nat} {m x : Str} {p apos pos : Pos} {kws : List Keyword} {ns : List Str} {ix : List Nat} {Wk : FuncData → Prop}
theorem pe_methKw0 {CX : CXT} {E : XK} {sp : Sp} {to : TE} {tk : TA} {g : List Value → List Value → List Value} {gV : List V → List V → List V} {pl : Sem Bool} (he : PE X o' to) (kc : L2.Cls X.K C) (hm : Meth X.K C m f) (F : FnOk X.prog X.w X.K X.mg X.base CX k f fd ps sp) (hr : Room k X.A) (hb : KBn X.K fd ps 1 ks g gV) (hx : Passes CX X E) (hkw : PK X kws tk)
    (hall : (backToKw pos (keywordEach kws X.env)).all (·.1.isSome) = true) (hks : (backToKw pos (keywordEach kws X.env)).filterMap (·.1) = ks)
    (hpl : ((backTo pos (starEach [] X.env)).any (·.1) || (backToKw pos (keywordEach kws X.env)).any (·.1.isNone)) = false)
    (ht : eval (.Call (.Attribute o' m apos) [] kws pos) X.env = (do
      let ov ← eval o' X.env
      standAt apos.atName
      let (f, first) ← holding [ov] (getMethod ov m pl)
      callWith pos f first (backTo pos (starEach [] X.env)) (backToKw pos (keywordEach kws X.env)))) :
    PE X (.Call (.Attribute o' m apos) [] kws pos) (fun σ H Q => to σ H fun v H1 => ∃ a dx fs, v = .ref a ∧ H1 a = some (.ins C dx fs) ∧ fs.lookup m = none ∧ tk σ H1 fun zs H2 => zs.length = ks.length ∧ sp (gV [v] zs) H2 Q E) := by
  refine ⟨fun pins s σ H Q I h => ?_⟩
  refine PySem.W.methodCall_KW (pl := pl) (thn (he.run pins s σ H _ I h) fun u s1 ⟨x, H1, I1, rx, a, dx, fs, ex, ea, l, q⟩ => ?_) ht
  subst ex
  obtain rfl : u = Value.ref a := rx
  refine getmeth_ok I1 ea kc hm l ?_
  refine PySem.W.callWith_KW0 (first := [.ref a]) (h₀ := X.base) I.ok.mod.kin hm.kp hall ?_ hpl
  refine thn (hkw.run pos pins s1 σ H1 _ I1 q) fun ws s2 ⟨zs, H2, I2, rz, l2, q2⟩ => ⟨I2.kIn, ?_⟩
  rw [hks]
  exact run_fnN (us := [.ref a]) (vs := [.ref a]) F hr hb hx I2 (.cons rfl .nil) rz rfl l2 q2
/-- o.m(k = v, ..) -/
def mMethKw (c : Nat) (F : FM) (ix : List Nat) (n : Nat) (o : EM) (a : AM) : EM := fun σ st => (o σ st).bind fun w st1 => if clsOf st1 w = some c then (a σ st1).bind fun ws st2 => if ws.length = n then (callF F (gI ix [w] ws) st2).nox else .no else .no
theorem methKwK {pl : Sem Bool} (h : Fk2 Wk X.prog X.w X.K X.mg X.base cl k f ps F) (hwk : ∀ fd, Wk fd → KBn X.K fd ps 1 ks (gI ix) (gI ix)) (g : GX K X) (hr : Room k X.A) (hC : cl[c]? = some (C, ns)) (hn : ns.contains m = false) (kc : L2.Cls K C) (hmt : Meth K C m f)
    (ho : SE K cl X Wx o eo) (ha : SK K cl X Wx a kws) (hnk : ks.length = n)
    (hall : (backToKw pos (keywordEach kws X.env)).all (·.1.isSome) = true := by rfl) (hks : (backToKw pos (keywordEach kws X.env)).filterMap (·.1) = ks := by rfl)
    (hpl : ((backTo pos (starEach [] X.env)).any (·.1) || (backToKw pos (keywordEach kws X.env)).any (·.1.isNone)) = false := by rfl)
    (ht : eval (.Call (.Attribute eo m apos) [] kws pos) X.env = (do
      let ov ← eval eo X.env
      standAt apos.atName
      let (f, first) ← holding [ov] (getMethod ov m pl)
      callWith pos f first (backTo pos (starEach [] X.env)) (backToKw pos (keywordEach kws X.env))) := by rfl) : SE K cl X Wx (mMethKw c F ix n o a) (.Call (.Attribute eo m apos) [] kws pos) := by
  obtain ⟨hK, _⟩ := g
  subst hK
  obtain ⟨fd, h1, h2, h3⟩ := h.ex
  refine ⟨fun E0 ρ G σ st τ H Q R S q => T.of (pe_methKw0 (E := L2.E0) T.pe kc hmt h1 hr (hwk fd h3) pass0 (pk_kw kws) hall hks hpl ht) ?_⟩
  refine ho.run E0 ρ G σ st τ H _ R S (Aft.seq q fun w st1 ρ1 G1 H1 v e1 p1 s1 R1 u1 h1 => ?_)
  split at h1
  case isFalse => exact h1.elim
  rename_i ec
  obtain ⟨b, dx, vs, rfl, hH⟩ := clsOf_ok R1 u1 ec hC
  refine ⟨b, dx, _, rfl, hH, zip_lookup_none (fun z => by rw [List.contains_iff_mem.mpr z] at hn; cases hn), ?_⟩
  refine ha.run E0 ρ1 G1 σ st1 τ H1 _ R1 (S.mono p1 s1) (Aft.seq h1 fun ws st2 ρ2 G2 H2 us e2 p2 s2 R2 u2 h2 => ?_)
  split at h2
  case isFalse => exact h2.elim
  rename_i hl
  refine ⟨by rw [← u2.length, hl, hnk], ?_⟩
  exact callF_ok R2 (gI_rws ix (.cons (RW.mono p2 s2 u1) .nil) u2) h2.noxZ
/-- C(k = v, ..) -/
def mMakeKw (c n : Nat) (F : FM) (ix : List Nat) (nk : Nat) (a : AM) : EM := fun σ st => (a σ st).bind fun ws st1 => if ws.length = nk then makeF c n F (gI ix [] ws) st1 else .no
theorem makeKwK (h : Fk2 Wk X.prog X.w X.K X.mg X.base cl k f ps F) (hwk : ∀ fd, Wk fd → KBn X.K fd ps 1 ks (gI ix) (gI ix)) (g : GX K X) (hr : Room (k + 1) X.A) (hC : cl[c]? = some (C, ns)) (hn : ns.length = n) (M : Mk K C f) (hg : Gl X x) (hm : X.mg x = some (.ref C))
    (ha : SK K cl X Wx a kws) (hnk : ks.length = nk) (hdb : (x == ("__debug__" : Str)) = false)
    (hall : (backToKw pos (keywordEach kws X.env)).all (·.1.isSome) = true := by rfl) (hks : (backToKw pos (keywordEach kws X.env)).filterMap (·.1) = ks := by rfl)
    (hpl : ((backTo pos (starEach [] X.env)).any (·.1) || (backToKw pos (keywordEach kws X.env)).any (·.1.isNone)) = false := by rfl) :
    SE K cl X Wx (mMakeKw c n F ix nk a) (.Call (.Name x p) [] kws pos) := by
  obtain ⟨hK, _⟩ := g
  subst hK
  obtain ⟨fd, h1, h2, h3⟩ := h.ex
  refine ⟨fun E0 ρ G σ st τ H Q R S q => T.of (pe_makeK0 (E := L2.E0) M h1 hr hg hm (hwk fd h3) pass0 (pk_kw kws) hall hks hdb hpl) ?_⟩
  refine ha.run E0 ρ G σ st τ H _ R S (Aft.seq q fun ws st2 ρ2 G2 H2 us e2 p2 s2 R2 u2 h2 => ?_)
  split at h2
  case isFalse => exact h2.elim
  rename_i hl
  refine ⟨rfl, by rw [← u2.length, hl, hnk], fun y dx hy hdx hne => ?_⟩
  exact makeF_ok hC hn R2 (gI_rws ix .nil u2) h2 hy hdx hne
/-- f(k = v, ..) -/
def mCallKw (F : FM) (ix : List Nat) (n : Nat) (a : AM) : EM := fun σ st => (a σ st).bind fun ws st1 => if ws.length = n then (callF F (gI ix [] ws) st1).nox else .no
theorem pe_callKw0 {CX : CXT} {E : XK} {sp : Sp} {tk : TA} {g : List Value → List Value → List Value} {gV : List V → List V → List V} (F : FnOk X.prog X.w X.K X.mg X.base CX k f fd ps sp) (hr : Room k X.A) (hg : Gl X x) (hm : X.mg x = some (.ref f)) (hk : PySem.W.keepIn X.K (.ref f) = true) (hb : KBn X.K fd ps 0 ks g gV) (hx : Passes CX X E)
    (hkw : PK X kws tk) (hall : (backToKw pos (keywordEach kws X.env)).all (·.1.isSome) = true) (hks : (backToKw pos (keywordEach kws X.env)).filterMap (·.1) = ks)
    (hdb : (x == ("__debug__" : Str)) = false) (hpl : ((backTo pos (starEach [] X.env)).any (·.1) || (backToKw pos (keywordEach kws X.env)).any (·.1.isNone)) = false) :
    PE X (.Call (.Name x p) [] kws pos) (fun σ H Q => tk σ H fun zs H2 => zs.length = ks.length ∧ sp (gV [] zs) H2 Q E) := by
  refine ⟨fun pins s σ H Q I h => ?_⟩
  refine wpAny_Call_Name_kw (ld_glob I hg hm ?_ hdb)
  refine PySem.W.callWith_KW0 (h₀ := X.base) I.ok.mod.kin hk hall ?_ hpl
  refine thn (hkw.run pos pins s σ H _ I h) fun ws s2 ⟨zs, H2, I2, rz, l2, q2⟩ => ⟨I2.kIn, ?_⟩
  rw [hks]
  exact run_fnN (us := []) (vs := []) F hr hb hx I2 .nil rz rfl l2 q2
theorem callKwK (h : Fk2 Wk X.prog X.w X.K X.mg X.base cl k f ps F) (hwk : ∀ fd, Wk fd → KBn X.K fd ps 0 ks (gI ix) (gI ix)) (g : GX K X) (hr : Room k X.A) (hg : Gl X x) (hm : X.mg x = some (.ref f))
    (ha : SK K cl X Wx a kws) (hnk : ks.length = n) (hdb : (x == ("__debug__" : Str)) = false)
    (hall : (backToKw pos (keywordEach kws X.env)).all (·.1.isSome) = true := by rfl) (hks : (backToKw pos (keywordEach kws X.env)).filterMap (·.1) = ks := by rfl)
    (hpl : ((backTo pos (starEach [] X.env)).any (·.1) || (backToKw pos (keywordEach kws X.env)).any (·.1.isNone)) = false := by rfl) :
    SE K cl X Wx (mCallKw F ix n a) (.Call (.Name x p) [] kws pos) := by
  obtain ⟨hK, _⟩ := g
  subst hK
  obtain ⟨fd, h1, h2, h3⟩ := h.ex
  refine ⟨fun E0 ρ G σ st τ H Q R S q => T.of (pe_callKw0 (E := L2.E0) h1 hr hg hm h.kp (hwk fd h3) pass0 (pk_kw kws) hall hks hdb hpl) ?_⟩
  refine ha.run E0 ρ G σ st τ H _ R S (Aft.seq q fun ws st2 ρ2 G2 H2 us e2 p2 s2 R2 u2 h2 => ?_)
  split at h2
  case isFalse => exact h2.elim
  rename_i hl
  refine ⟨by rw [← u2.length, hl, hnk], ?_⟩
  exact callF_ok R2 (gI_rws ix .nil u2) h2.noxZ
end

/-! ### a try whose body raises nothing -/
theorem AftS.never {R : SR} (h : AftS (bs K cl E0) ρ G R D WF) : AftS (bs K cl E0) ρ G R D Wx := by
  cases R with
  | ok f σ st => exact h
  | exc x σ st => exact fun ρ' G' H' τ' c d p s R S x => (h ρ' G' H' τ' c d p s R S x).elim
  | no => exact h
/-- .. as it stands: what is raised has no answer -/
def SR.nox : SR → SR
  | .exc _ _ _ => .no
  | r => r
def sTry0 (b : SMm) : SMm := fun σ st => (b σ st).nox
theorem ss_try0 {b : SMm} {body : List Stmt} {h0 : ExceptHandler} {hs : List ExceptHandler} {pos : Pos} (hb : SSs K cl X.nox WF b body) : SS K cl X Wx (sTry0 b) (.Try body (h0 :: hs) [] [] pos) := by
  refine ⟨fun E0 ρ G σ st τ H D R S q => TS'.of (ps_try_thru0 TSs'.pss) ?_⟩
  refine hb.run E0 ρ G σ st τ H D R S ?_
  have q : AftS (bs K cl E0) ρ G (b σ st).nox D Wx := q
  cases e : b σ st with
  | ok f σ' st' => rw [e] at q; exact q
  | exc x σ' st' => rw [e] at q; exact q.elim
  | no => rw [e] at q; exact q
theorem GX.nox (g : GX K X) : GX K X.nox := ⟨g.hK, g.hc, g.hN, g.hu, g.hh⟩

/-! ### data of the module: tuples -/
mutual
def kvB (K : PySem.W.Frag) : P → Value → Bool
  | .non, .none => true
  | .bl b, .bool c => b == c
  | .int i, .int j _ => i == j
  | .str x, .str y _ => x == y
  | .tup l, .ref a => match K.lookup a with
    | some o => decide (o.cls = .type "tuple") && (match o.data with
      | .seq its _ => decide (its.size ≤ sizeLine) && kvsB K l its.toList
      | _ => false)
    | none => false
  | _, _ => false
def kvsB (K : PySem.W.Frag) : List P → List Value → Bool
  | [], [] => true
  | x :: l, u :: us => kvB K x u && kvsB K l us
  | _, _ => false
end
mutual
theorem kvB_ok {K : PySem.W.Frag} : ∀ {x : P} {u : Value}, kvB K x u = true → ∃ v, RelV v u ∧ ∀ cl G, RP K cl G x v
  | .non, .none, _ => ⟨.non, rfl, fun _ _ => .non⟩
  | .bl b, .bool c, h => by
    rw [kvB] at h
    obtain rfl : b = c := by simpa using h
    exact ⟨.bl b, rfl, fun _ _ => .bl b⟩
  | .int i, .int j t, h => by
    rw [kvB] at h
    obtain rfl : i = j := by simpa using h
    exact ⟨.int i, ⟨t, rfl⟩, fun _ _ => .int i⟩
  | .str x, .str y t, h => by
    rw [kvB] at h
    obtain rfl : x = y := by simpa using h
    exact ⟨.str x, ⟨t, rfl⟩, fun _ _ => .str x⟩
  | .tup l, .ref a, h => by
    rw [kvB] at h
    cases lk : K.lookup a with
    | none => rw [lk] at h; cases h
    | some o =>
      rw [lk] at h
      simp only [Bool.and_eq_true] at h
      obtain ⟨hc, h⟩ := h
      cases hd : o.data with
      | seq its n =>
        rw [hd] at h
        simp only [Bool.and_eq_true] at h
        obtain ⟨vs, r1, r2⟩ := kvsB_ok h.2
        exact ⟨.ref a, rfl, fun cl G => .tup (.inr ⟨o, its, n, lk, of_decide_eq_true hc, hd, of_decide_eq_true h.1, r1⟩) (r2 cl G)⟩
      | _ => rw [hd] at h; cases h
theorem kvsB_ok {K : PySem.W.Frag} : ∀ {l : List P} {us : List Value}, kvsB K l us = true → ∃ vs, Vals vs us ∧ ∀ cl G, RPs K cl G l vs
  | [], [], _ => ⟨[], .nil, fun _ _ => .nil⟩
  | x :: l, u :: us, h => by
    rw [kvsB, Bool.and_eq_true] at h
    obtain ⟨v, r1, r2⟩ := kvB_ok h.1
    obtain ⟨vs, q1, q2⟩ := kvsB_ok h.2
    exact ⟨v :: vs, .cons r1 q1, fun cl G => .cons (r2 cl G) (q2 cl G)⟩
  | [], _ :: _, h => by rw [kvsB] at h <;> first | cases h | (intros; contradiction)
  | _ :: _, [], h => by rw [kvsB] at h <;> first | cases h | (intros; contradiction)
end
def gtB (K : PySem.W.Frag) (x : Str) (p : P) : Bool := match PySem.W.nsIn K mainGlobals x with
  | some (some u) => kvB K p u
  | _ => false
theorem gtB_ok {h : Heap} {mg : Str → Option Value} (X : K.In h) (G : h.Ns mainGlobals mg) {x : Str} {p : P} (c : gtB K x p = true) : ∃ u, mg x = some u ∧ kvB K p u = true := by
  unfold gtB at c
  split at c
  · rename_i u e
    exact ⟨u, PySem.W.mg_of X G e, c⟩
  · cases c
theorem se_gtup {x : Str} {p : P} {pos : Pos} (g : GX K X) (hg : Gl X x) (hm : ∃ u, X.mg x = some u ∧ kvB K p u = true) (hd : (x == ("__debug__" : Str)) = false) : SE K cl X Wx (mC p) (.Name x pos) := by
  obtain ⟨u, h1, h2⟩ := hm
  obtain ⟨v, r1, r2⟩ := kvB_ok h2
  exact se_glob hg h1 r1 (r2 cl) hd
end
end Y

/-! Y16: sum, max of tuples of ints, too. -/
namespace Y
open PySem PySem.Spec PyProof.Rows L2
theorem iter_sumT {prog : Program} {w : World} {A : Around} {E : Value → Shared → Prop} {s : Shared} {l : Addr} {items : Array Value} {Q : Value → Shared → Prop} (hl : s.heap.IsTuple l items)
    (h : ∀ s₂ : Shared, s₂ = { s with heap := s.heap.push { cls := .type "tuple_iterator", data := .fields #[.ref l, .int 0 0] } } →
      (s₂.heap.IsTupleIter s.heap.objs.size l 0 ∧ s₂.heap.IsTuple l items) → (∀ b ∈ [s.heap.objs.size, l], b < s₂.heap.objs.size) → l ≠ s.heap.objs.size → Q (.ref s.heap.objs.size) s₂) : wpAny (model prog w) A (pyIter (.ref l)) Q E s := by
  have hlt : l < s.heap.objs.size := by obtain ⟨_, e, _⟩ := hl; exact Heap.lt_size e
  refine wpAny_pyIter_tuple hl (h _ rfl ⟨⟨_, Heap.get?_push_size _ rfl, rfl, rfl⟩, hl.push _⟩ (fun b hb => ?_) (Nat.ne_of_lt hlt))
  have e : (s.heap.push { cls := .type "tuple_iterator", data := .fields #[.ref l, .int 0 0] }).objs.size = s.heap.objs.size + 1 := by simp [Heap.push]
  show b < (s.heap.push _).objs.size
  rw [e]
  simp only [List.mem_cons, List.not_mem_nil, or_false] at hb
  rcases hb with rfl | rfl
  · exact Nat.lt_succ_self _
  · exact Nat.lt_succ_of_lt hlt
section
variable {K : PySem.W.Frag} {cl : Cls} {X : Cx} {Wx : WX} {E0 : En} {ρ ρ' : List Addr} {G G' : Hp} {σ : Sg} {τ : L2.St} {st : List Cell} {H : Hp} {D : Ends}
theorem ints_at {its : List Value} {ns : List Int} (r : Vals (ns.map V.int) its) {i : Nat} {v : Value} (h : its.toArray[i]? = some v) : ∃ t, v = .int (ns.getD i 0) t := by
  have h' : its[i]? = some v := by simpa using h
  clear h
  induction ns generalizing its i with
  | nil => cases r; simp at h'
  | cons n ns ih =>
    cases r with
    | cons r1 r2 =>
      cases i with
      | zero =>
        have e : _ = v := Option.some.inj h'
        subst e
        obtain ⟨t, rfl⟩ := r1
        exact ⟨t, rfl⟩
      | succ i => exact ih r2 (by simpa using h')
def rSumT (K : PySem.W.Frag) : List V → Hp → VK → Prop := fun vs H Q => ∃ (a : Addr) (ns : List Int), vs = [V.ref a] ∧ SqT K H a (ns.map V.int) ∧ Q (.int ns.sum) H
theorem call_sumT (hc : X.calm = true) : CallR X (.builtin "sum") (rSumT X.K) := by
  intro pins s σ H xs us Q I r h
  obtain ⟨a, ns, rfl, hs, q⟩ := h
  rw [Vals.ref1 r]
  obtain ⟨its, rv, hl, _⟩ := I.tuple hs
  have hlen : its.toArray.size = ns.length := by rw [List.size_toArray, ← rv.length, List.length_map]
  refine call_sum_walkG (iter_sumT (show s.heap.IsTuple a its.toArray from hl) fun s₂ e2 st hfp hne => ?_)
  subst e2
  refine ⟨_, _, _, _, _, _, fun i => ns.getD i 0, rfl, Walks.tuple (A := X.A.in1) (I.ok.hd hc) _ a hne its.toArray, st, hfp, fun i v hv => ints_at rv hv, fun h' tk t' hk => ?_⟩
  refine ⟨.int _, H, I.kept fun b o eo => hk b o (fun hmem => ?_) (Heap.get?_push_of_some _ eo), ⟨t', rfl⟩, ?_⟩
  · rcases List.mem_cons.mp hmem with e1 | hmem
    · exact absurd (e1 ▸ Heap.lt_size eo) (Nat.lt_irrefl _)
    · cases hmem
  · rw [hlen, preSum_getD, List.take_of_length_le (Nat.le_refl _)]; exact q
def rMaxT (K : PySem.W.Frag) : List V → Hp → VK → Prop := fun vs H Q => ∃ (a : Addr) (ns : List Int), vs = [V.ref a] ∧ SqT K H a (ns.map V.int) ∧ 0 < ns.length ∧ ∀ m, m ∈ ns → (∀ y, y ∈ ns → y ≤ m) → Q (.int m) H
theorem call_maxT (hc : X.calm = true) : CallR X (.builtin "max") (rMaxT X.K) := by
  intro pins s σ H xs us Q I r h
  obtain ⟨a, ns, rfl, hs, hn, q⟩ := h
  rw [Vals.ref1 r]
  obtain ⟨its, rv, hl, _⟩ := I.tuple hs
  have hlen : its.toArray.size = ns.length := by rw [List.size_toArray, ← rv.length, List.length_map]
  refine call_max_walk (iter_sumT (show s.heap.IsTuple a its.toArray from hl) fun s₂ e2 st hfp hne => ?_)
  subst e2
  refine ⟨_, _, _, _, _, _, _, rfl, Walks.tuple (A := X.A.in1) (I.ok.hd hc) _ a hne its.toArray, st, hfp, by rw [hlen]; exact hn, CmpOf.ints_gt (fun i => ns.getD i 0) (fun _ _ hv => ints_at rv hv), fun v h' tk hP hk => ?_⟩
  obtain ⟨t, rfl⟩ := ints_at rv hP
  obtain ⟨h1, h2⟩ := argBest_gt (fun i => ns.getD i 0) (its.toArray.size - 1)
  refine ⟨.int _, H, I.kept fun b o eo => hk b o (fun hmem => ?_) (Heap.get?_push_of_some _ eo), ⟨t, rfl⟩, ?_⟩
  · rcases List.mem_cons.mp hmem with e1 | hmem
    · exact absurd (e1 ▸ Heap.lt_size eo) (Nat.lt_irrefl _)
    · cases hmem
  · refine q _ (PySem.getD_mem (by omega)) fun y hy => ?_
    obtain ⟨j, hj, rfl⟩ := mem_getD hy
    exact h2 j (by omega)
/-- sum, max, min of a list or tuple -/
def vSumS (ws : List W) (st : List Cell) : Res W := match ws with
  | [w] => match (seqP st w).bind intsOf with
    | some l => .ok (.p (.int l.sum)) st
    | none => .no
  | _ => .no
theorem seqInts_ok (R : (bs K cl E0).Rel ρ G st H) {w : W} {v : V} {l : List Int} (r : RW K cl ρ G w v) (e : (seqP st w).bind intsOf = some l) : ∃ a, v = .ref a ∧ (SqL K H a (l.map V.int) ∨ SqT K H a (l.map V.int)) := by
  cases e1 : seqP st w with
  | none => rw [e1] at e; cases e
  | some m =>
    rw [e1] at e
    obtain ⟨a, vs, rfl, h1, q⟩ := seqP_ok R r e1
    have := intsOf_eq (show intsOf m = some l from e)
    subst this
    rw [q.of_ints] at h1
    exact ⟨a, rfl, h1⟩
def rSumA (K : PySem.W.Frag) : List V → Hp → VK → Prop := fun xs H Q => rSum K xs H Q ∨ rSumT K xs H Q
theorem call_sumA (hc : X.calm = true) : CallR X (.builtin "sum") (rSumA X.K) := (cr_sum hc).or (call_sumT hc)
theorem vSumS_ok : VCall K cl vSumS (rSumA K) := by
  intro E0 ρ G st H ws vs Q Z R rw' h
  unfold vSumS at h
  split at h
  · obtain ⟨v, rfl, r⟩ := rw'.one
    split at h
    · rename_i l el
      obtain ⟨a, rfl, hs | hs⟩ := seqInts_ok R r el
      · exact .inl ⟨a, l, rfl, hs, h.here R (RP.int _)⟩
      · exact .inr ⟨a, l, rfl, hs, h.here R (RP.int _)⟩
    · exact h.elim
  · exact h.elim
def vMaxS (ws : List W) (st : List Cell) : Res W := match ws with
  | [w] => match (seqP st w).bind intsOf with
    | some l => if 0 < l.length then .ok (.p (.int (maxI l))) st else .no
    | none => .no
  | [.p (.int i), .p (.int j)] => .ok (.p (.int (if j > i then j else i))) st
  | _ => .no
def rMaxS (K : PySem.W.Frag) : List V → Hp → VK → Prop := fun xs H Q => rMaxA K xs H Q ∨ rMaxT K xs H Q
theorem call_maxS (hc : X.calm = true) : CallR X (.builtin "max") (rMaxS X.K) := (call_maxA hc).or (call_maxT hc)
theorem vMaxS_ok : VCall K cl vMaxS (rMaxS K) := by
  intro E0 ρ G st H ws vs Q Z R rw' h
  unfold vMaxS at h
  split at h
  · obtain ⟨v, rfl, r⟩ := rw'.one
    split at h
    · rename_i l el
      obtain ⟨a, rfl, hs | hs⟩ := seqInts_ok R r el
      · split at h
        · rename_i hl
          refine .inl (.inl ⟨a, l, rfl, hs, hl, fun m h1 h2 => ?_⟩)
          rw [maxI_is h1 h2]
          exact h.here R (RP.int _)
        · exact h.elim
      · split at h
        · rename_i hl
          refine .inr ⟨a, l, rfl, hs, hl, fun m h1 h2 => ?_⟩
          rw [maxI_is h1 h2]
          exact h.here R (RP.int _)
        · exact h.elim
    · exact h.elim
  · obtain ⟨v, u, rfl, r, r2⟩ := rw'.two
    cases r; cases r2
    exact .inl (.inr ⟨_, _, rfl, h.here R (RP.int _)⟩)
  · exact h.elim
end
end Y

/-! Y17: an exception class whose __init__ says super().__init__(text) and then stores fields. -/
namespace Y
open PySem PySem.Spec PyProof.Rows L2
open PySem.W (ksEnv ksFn kxs_mw)

/-! ### a def that closes over __class__ -/
structure CScope (ps : List Str) (sc : Scope) : Prop where
  kind : sc.kind = .function
  co : sc.isCoroutine = false
  gen : sc.isGenerator = false
  nd : ps.Nodup
  par : ∀ x ∈ ps, sc.names.lookup x = some .local
  own : ∀ y ∈ sc.names, y.2 = .free → y.1 = ("__class__" : Str)
  nocell : ∀ y ∈ sc.names, y.2 ≠ .cell
  cls : sc.names.lookup ("__class__" : Str) = some .free
  sup : sc.names.lookup ("super" : Str) = some .globalImplicit
abbrev ccx (P : Program) (w : World) (K : PySem.W.Frag) (mg : Str → Option Value) (base : Heap) (ps : List Str) (qual : Str) (scope : Scope) (f cc : Addr) (cd : Value) (A : Around) (outer : List Env) (s : Shared) (H : Hp) : Cx where
  prog := P
  w := w
  K := K
  mg := mg
  base := base
  A := A.deeper (ksEnv qual scope s.heap.objs.size f cd cc)
  N := ps
  s_0 := s
  H_0 := H
  env := ksEnv qual scope s.heap.objs.size f cd cc
  outer := outer
  stack := ksEnv qual scope s.heap.objs.size f cd cc :: outer
  ex := []
  calm := true
  fn := fun _ => false
  pn := []
  xe := fun _ _ => False
theorem lookup_nd {y : Str} {u : Value} : ∀ {l : List (Str × Value)}, (l.map (·.1)).Nodup → (y, u) ∈ l → l.lookup y = some u
  | (z, v) :: l, nd, h => by
    rw [List.map_cons, List.nodup_cons] at nd
    rw [List.lookup_cons]
    rcases List.mem_cons.mp h with e | h
    · cases e
      simp
    · have : (y == z) = false := beq_eq_false_iff_ne.mpr fun e => nd.1 (by rw [← e]; exact List.mem_map.mpr ⟨_, h, rfl⟩)
      rw [this]
      exact lookup_nd nd.2 h
theorem rev_lookup {ps : List Str} {us : List Value} (nd : ps.Nodup) (hl : us.length = ps.length) {i : Nat} {y : Str} {u : Value} (h1 : ps[i]? = some y) (h2 : us[i]? = some u) : (ps.zip us).reverse.lookup y = some u := by
  refine lookup_nd ?_ (List.mem_reverse.mpr (List.mem_iff_getElem?.mpr ⟨i, by rw [List.getElem?_zip_eq_some]; exact ⟨h1, h2⟩⟩))
  rw [List.map_reverse, List.map_fst_zip (by omega)]
  exact (List.reverse_perm ps).nodup_iff.mpr nd
section
variable {P : Program} {w : World} {K : PySem.W.Frag} {mg : Str → Option Value} {base : Heap} {ps : List Str} {name qual : Str} {scope : Scope} {f cc C cda : Addr} {cd : Value} {A : Around} {outer : List Env} {s : Shared} {H : Hp}
theorem inv_startC {us : List Value} {vs : List V} (S : CScope ps scope) (hd : A.handled = none) (e0 : Env0 P w K mg base A outer s H) (hl : vs.length = ps.length) (r : Vals vs us) {ob : Obj} {v0 : Option Value} (hcc : K.lookup cc = some ob) (hob : ob.data = .cell v0)
    {h₁ : Heap} {tk : Nat} (hns : h₁.Ns s.heap.objs.size fun x => (ps.zip us).reverse.lookup x) (kp : ∀ b o, s.heap.get? b = some o → h₁.get? b = some o) :
    Inv (ccx P w K mg base ps qual scope f cc cd A outer s H) [] (L2.start ps vs) H { s with heap := h₁, toks := tk } := by
  have noA : ∀ b : Addr, b ∉ (ccx P w K mg base ps qual scope f cc cd A outer s H).ex := fun b z => absurd (show b ∈ ([] : List Addr) from z) (by simp)
  have hbc : base.get? cc = some ob := e0.mod.kin _ _ hcc
  have lku : ∀ {y c}, ([("__class__", cc)] : List (Str × Addr)).lookup y = some c → y = ("__class__" : Str) ∧ c = cc := fun {y c} h => by
    rw [List.lookup_cons] at h
    split at h
    · rename_i e
      exact ⟨eq_of_beq e, (Option.some.inj h).symm⟩
    · cases h
  have lul : us.length = ps.length := by rw [← r.length]; exact hl
  refine ⟨⟨e0.mod, S.kind, rfl, rfl, Nat.le_refl _, fun y z c h1 h2 => (lku h1).1.trans (lku h2).1.symm, fun y hy => ?_, fun y c z _ => ?_, fun _ => hd, Around.frames_deeper e0.frames, .inr ⟨rfl, rfl⟩, fun b z => absurd z (noA b), e0.bs, e0.bsz, fun b _ _ => noA b, fun b z => absurd z (noA b), e0.funs, e0.frf⟩,
    rfl, e0.bare, Un.kept kp, ⟨_, hns, fun i y v h1 h2 h3 => ?_⟩, fun y c h => ?_, e0.hok.fresh (Nat.le_refl _), fun y c h => ?_, fun p hp => absurd (show p ∈ ([] : List (Addr × Obj)) from hp) (by simp), e0.hok.kept kp, ?_⟩
  · have hy : scope.names.lookup y = some .cell ∨ scope.names.lookup y = some .free := hy
    rcases hy with hy | hy
    · exact absurd rfl (S.nocell _ (PySem.mem_of_lookup hy))
    · have := S.own _ (PySem.mem_of_lookup hy) rfl
      have this : y = ("__class__" : Str) := this
      subst this
      exact ⟨cc, rfl⟩
  · exact absurd (show false = true from z) (by simp)
  · have hi : i < vs.length := by
      unfold L2.start at h2
      by_cases hi : i < vs.length
      · exact hi
      · rw [List.getElem?_append_right (by simpa using hi)] at h2
        rw [List.getElem?_replicate] at h2
        split at h2 <;> cases h2
    have ha : vs[i]? = some v := by
      unfold L2.start at h2
      rw [List.getElem?_append_left (by simpa using hi), List.getElem?_map] at h2
      cases e : vs[i]? with
      | none => rw [e] at h2; cases h2
      | some a => rw [e] at h2; cases h2; rfl
    obtain ⟨u, hu, rv⟩ := r.get ha
    have hp : ps[i]? = some y := h1
    exact ⟨u, rv, .inl ⟨S.par y (List.mem_of_getElem? hp), rev_lookup S.nd lul hp hu⟩⟩
  · obtain ⟨_, rfl⟩ := lku h
    exact ⟨v0, ob, kp _ _ (e0.bs _ _ hbc).1, hob⟩
  · obtain ⟨_, rfl⟩ := lku h
    exact (e0.bs _ _ hbc).2
  · unfold L2.start
    simp [hl]
end

/-! ### the built-in __init__ bound to the new exception, called -/
section
open PySem.W PySem.Calls
variable {prog : Program} {w : World} {A : Around} {E : Value → Shared → Prop} {h : Heap} {g : Array GenState} {d : Drawn} {t : Nat} {os : OsState}
variable {nm q : Str} {C N : Addr} {bs bm : List Value} {hdct : Bool} {sn : List Str} {sub : List Value} {ab : Bool} {col : Option Bool} {dd : Option Addr} {k0 k1 k2 k3 k5 : Option Value}
theorem call_bwV {u e t0 : Addr} {rest : List Value} {Q : Value → Shared → Prop}
    (hC : h.get? C = some (excClassObj nm q C N bs bm hdct sn sub ab col dd k0 k1 k2 k3 k5 "ValueError.__new__")) (he : h.get? e = some (HandSPX.excO C t0)) (hu : h.get? u = some (kxs_mw "ValueError.__init__" e)) (hrest : rest.length ≤ sizeLine)
    (hq : ∀ h' t1, (∀ b o, b ≠ e → h.get? b = some o → h'.get? b = some o) → h'.get? e = some (HandSPX.excO C t1) → Q .none ⟨h', g, d, t, os⟩) :
    wpAny (model prog w) A (call (.ref u) rest) Q E ⟨h, g, d, t, os⟩ := by
  refine wpAny_call (codeAny_of_tree ?_)
  show wpAny _ A.in1 (callAny (.ref u) ⟨rest, []⟩) _ _ _
  simp only [callAny]
  refine wpAny_bind (wpAny_load hu ?_)
  simp only [kxs_mw, show (Value.type "method-wrapper" == Value.type "method" || Value.type "method-wrapper" == Value.type "builtin_function_or_method" || Value.type "method-wrapper" == Value.type "method-wrapper") = true by decide, if_true]
  refine W.KFB.if_so (by decide) ?_
  refine wpAny_bind (check_bound_init F.excBase_ValueError.toExcCallFacts hC he rfl ?_)
  refine wpAny_bind (wpAny_pure (wpAny_pure ?_))
  refine ⟨Code.quiet_builtin _ (by decide +kernel), codeAny_builtin F.excBase_ValueError.initEntry ?_⟩
  rw [Around.under_plainId F.excBase_ValueError.init.plain _]
  wp_walk
  refine hq _ h.objs.size (fun b o hb ho => ?_) ?_
  · rw [Heap.get?_update_other _ _ (Ne.symm hb)]
    exact Heap.get?_push_of_some _ ho
  · rw [Heap.get?_update_self _ (Heap.get?_push_of_some _ he) rfl]
    rfl
end

/-! ### super().__init__(text), then the rest -/
/-- what is told of such a class and its __init__ -/
structure SayF (P : Program) (K : PySem.W.Frag) (mg : Str → Option Value) (C f cc cda : Addr) (name qual : Str) (params : Arguments) (body : List Stmt) (scope : Scope) (fd : FuncData) : Prop where
  T : OexC K C
  lk : ∃ oc od dV kV doc pm an ct osl, fd = ksFn name qual params body scope dV kV doc pm an (.ref cda) ct cc ∧ K.lookup f = some ⟨oc, od, .func fd, osl⟩
  hcd : PySem.W.codeIn K (.ref cda) qual = true
  cell : ∃ cl0 cd0 csl, K.lookup cc = some ⟨cl0, cd0, .cell (some (.ref C)), csl⟩
  par : ∃ ar, (params.posonlyargs ++ params.args).head? = some ar ∧ ar.arg = ("self" : Str)
  code : ∃ ccl cdd vs ccs file tf, K.lookup cda = some ⟨ccl, cdd, .fields vs, ccs⟩ ∧ vs[2]? = some (.str file tf) ∧ ((P.main.file : Str) == file) = true
  top : (P.main.scope.names.lookup ("super" : Str)).isSome = false
  sup : mg "super" = none
  along : PySem.W.ks_superIn K C C "__init__" = some (some (.builtin "ValueError.__init__"))
  self : PySem.W.mroIn K C (.ref C) = some true
  isVE : PySem.W.subIn K (.ref C) (.type "ValueError") = some true
  opq : PySem.W.nsIn K PySem.cStatics "thirdparty.any" = some none
section
open PySem.W PySem.Calls
variable {P : Program} {w : World} {K : PySem.W.Frag} {mg : Str → Option Value} {base : Heap} {C f cc cda : Addr} {name qual : Str} {params : Arguments} {scope : Scope} {fd : FuncData}
/-- what such an __init__ promises: the rest t of its body runs from the new exception -/
def spSay (ps : List Str) (C : Addr) (t : TS) : Sp := fun vs H Q _ => vs.length = ps.length ∧ ∃ a ws, vs = .ref a :: ws ∧ H a = some (exo a C none) ∧ t { nx := fun _ H' => Q .non H', rt := Q } (L2.start ps vs) H
theorem say_fn {ps ps' : List Str} {k j : Nat} {p0 p1 p2 p3 p4 p5 : Pos} {m : Str} {rest : List Stmt} {t : TS} (hps : ps = ("self" : Str) :: ps')
    (D : SayF P K mg C f cc cda name qual params (.Expr (.Call (.Attribute (.Call (.Name "super" p0) [] [] p1) "__init__" p2) [.Constant (.str m) j p3] [] p4) p5 :: rest) scope fd) (S : CScope ps scope)
    {pl : Sem Bool} (he : ∀ L, eval (.Call (.Attribute (.Call (.Name "super" p0) [] [] p1) "__init__" p2) [.Constant (.str m) j p3] [] p4) (ksEnv qual scope L f (.ref cda) cc) = (do
      let ov ← attributeBase (.Call (.Name "super" p0) [] [] p1) "__init__" (ksEnv qual scope L f (.ref cda) cc) (eval (.Call (.Name "super" p0) [] [] p1) (ksEnv qual scope L f (.ref cda) cc))
      standAt p2.atName
      let (f', first) ← holding [ov] (getMethod ov "__init__" pl)
      callWith p4 f' first (backTo p4 (starEach [.Constant (.str m) j p3] (ksEnv qual scope L f (.ref cda) cc))) []))
    (hi : ∀ L, interactive (ksEnv qual scope L f (.ref cda) cc) = false) (hsw : ∀ L, swapsWith (.Call (.Attribute (.Call (.Name "super" p0) [] [] p1) "__init__" p2) [.Constant (.str m) j p3] [] p4) none p5.line (ksEnv qual scope L f (.ref cda) cc) = pure false)
    (hrest : ∀ (A : Around) (outer : List Env) (s : Shared) (H : Hp), PSs (ccx P w K mg base ps qual scope f cc (.ref cda) A outer s H) rest t) : FnOk P w K mg base CX0 (k + 1) f fd ps (spSay ps C t) := by
  refine ⟨fun vs H Q E h => h.1, fun A outer s H args us vs Q E hr e0 hb' r hsp => ?_⟩
  obtain ⟨hl, a, ws, rfl, ea, ht⟩ := hsp
  obtain ⟨oc, od, dV, kV, doc, pm, an, ct, osl, rfl, lk⟩ := D.lk
  obtain ⟨cl0, cd0, csl, hcc⟩ := D.cell
  obtain ⟨ar, hpar, har⟩ := D.par
  obtain ⟨ccl, cdd, cvs, ccs, file, tf, hcode, hvs, hfile⟩ := D.code
  have KX : K.In s.heap := e0.mod.kin.keeps fun b o e => (e0.bs b o e).1
  have lim : s.heap.NoLimit := e0.mod.nolimit.keeps fun b o e => (e0.bs b o e).1
  refine PySem.ks_codeAny_call_defAt (binds := ps.zip us) hr.depth (KX _ _ lk) rfl lim (PySem.W.codeRec_of KX D.hcd) rfl hb' S.nocell (fun y hy => S.par _ (List.of_mem_zip hy).1) (fun h₁ hns kp => ?_) S.co S.gen S.kind
  have I := inv_startC (w := w) (mg := mg) (qual := qual) (f := f) (cd := .ref cda) (tk := s.toks + (ps.zip us).length) S hr.hd e0 hl r hcc rfl hns kp
  have fin : ∀ {σ' : L2.St} {H' : Hp} {v : V} {u : Value} {s' : Shared}, Inv (ccx P w K mg base ps qual scope f cc (.ref cda) A outer s H) [] σ' H' s' → L2.RelV v u → Q v H' → CE outer P w H s Q u s' :=
    fun {σ' H' v u s'} J rv q => ⟨v, H', J.os, J.bare, J.base, J.hok, rv, q⟩
  have fin2 : ∀ (fl : Flow) (s' : Shared), SP (ccx P w K mg base ps qual scope f cc (.ref cda) A outer s H) [] { nx := fun _ H' => Q .non H', rt := Q } fl s' → CE outer P w H s Q (match fl with | .ret v => v | _ => .none) s' := fun fl s' hs => by
    cases fl with
    | ret u =>
      obtain ⟨v, σ', H', J, rv, q⟩ := hs
      exact fin J rv q
    | next =>
      obtain ⟨σ', H', J, q⟩ := hs
      exact fin (v := V.non) (u := Value.none) J rfl q
    | brk =>
      obtain ⟨_, _, _, q⟩ := hs
      exact False.elim q
    | cont =>
      obtain ⟨_, _, _, q⟩ := hs
      exact False.elim q
  refine PySem.ks_wpAt_execs_cons (PySem.ks_wpAt_Expr_any (PySem.ks_wpAt_MethodCall (PySem.ks_wpAt_super_base (env := ksEnv qual scope s.heap.objs.size f (.ref cda) cc) S.sup S.cls rfl rfl (I.kIn _ _ lk) rfl hpar rfl (I.kIn _ _ hcode) rfl hvs hfile D.top ?_) (he _)) (hi _) (hsw _))
  obtain ⟨mb, b1, b2⟩ := I.mod.blt
  obtain ⟨u0, ur, rfl, ru⟩ : ∃ u0 ur, us = u0 :: ur ∧ L2.RelV (.ref a) u0 := by
    cases r with
    | cons r1 r2 => exact ⟨_, _, rfl, r1⟩
  obtain rfl : u0 = .ref a := ru
  obtain ⟨nm, qn, N, bs, bm, sn, sub, ab, col, dd, k0, k1, k2, k3, k5, hCK, hbm⟩ := D.T.cls
  have hC := I.kIn _ _ hCK
  obtain ⟨t1, hea⟩ := exo_at I.hok ea
  have hcl : PySem.W.clsIn K C = some { name := nm, bases := bs, mro := .ref C :: bm, ns := N, qualname := qn, hasDict := true, slotNames := sn, subclasses := sub, abstract := ab, collection := col, hasDel := false } := by unfold PySem.W.clsIn; rw [hCK] <;> rfl
  have lul : (Value.ref a :: ur).length = ps.length := by rw [← r.length]; exact hl
  have hself : (ps.zip (Value.ref a :: ur)).reverse.lookup ar.arg = some (.ref a) := by
    rw [har]
    exact rev_lookup (i := 0) S.nd lul (by rw [hps]; rfl) rfl
  refine PySem.W.ks_loadName_global S.kind S.sup (PySem.Calls.loadGlobal_builtin (env := ksEnv qual scope s.heap.objs.size f (.ref cda) cc) (I.mod.glob.keeps I.bk) D.sup (b1.keeps I.bk) ((b2 "super" (by decide)).trans PyProof.Rows.Boot.«super») ⟨rfl, ?_⟩)
  refine wpAny_loadName_free S.kind S.cls rfl ⟨_, I.kIn _ _ hcc, rfl⟩ ?_
  refine wpAny_loadName_local S.kind (by rw [har]; exact S.par _ (by rw [hps]; exact List.mem_cons_self)) hns hself ?_
  refine PySem.ks_wpAny_isType_cls hC rfl ⟨rfl, ?_⟩
  refine PySem.ks_wpAny_call_super hC rfl hea rfl (fun c e => by cases e) (PySem.W.looks_mroIn I.kIn D.self) (fun h' e k => ?_)
  have I2 : Inv (ccx P w K mg base ps qual scope f cc (.ref cda) A outer s H) [] (L2.start ps (.ref a :: ws)) H { s with heap := h', toks := s.toks + (ps.zip (Value.ref a :: ur)).length } := I.kept k
  have ia : PySem.W.InstAt h' a (PySem.HandSPX.excO C t1) C none := ⟨k _ _ hea, rfl, rfl, trivial⟩
  have al := D.along
  unfold PySem.W.ks_superIn at al
  rw [hcl] at al
  refine PySem.W.kxs_getMethod PySem.W.kxs_ValueError e (PySem.W.looks_opaque I2.kIn D.opq) (l₀ := .ref C :: bm) (fun A Q E s k q => wpAny_bind ((PySem.W.looks_clsIn I2.kIn hcl) A _ E s k (wpAny_pure q))) rfl I2.kIn al (ia.type.andThen (PySem.W.looks_subIn I2.kIn D.isVE)) (PySem.W.ks_ne I2.kIn ia hcl) (by decide) ?_
  have hu : (h'.push (kxs_mw "ValueError.__init__" a)).get? h'.objs.size = some (kxs_mw "ValueError.__init__" a) := Heap.get?_push_at rfl rfl
  have kk : ∀ b o, h'.get? b = some o → (h'.push (kxs_mw "ValueError.__init__" a)).get? b = some o := fun b o e => Heap.get?_push_of_some _ e
  refine PySem.W.kxs_callWith (i := "ValueError.__init__") (x := a) rfl ?_
  refine PySem.Calls.evalArgs_plain (PySem.Calls.spliced_cons (PySem.Calls.Constant_str (pos := p3) (k := j) (PySem.Calls.spliced_nil ⟨hu, ?_⟩)))
  refine call_bwV (kk _ _ (k _ _ hC)) (kk _ _ (k _ _ hea)) hu (by rw [sizeLine_eq]; show 1 ≤ 16777216; decide) fun h3 t3 k3 hx => ?_
  have J := (I2.kept (t' := 0) kk).write (t' := s.toks + (ps.zip (Value.ref a :: ur)).length + 1 + 1) (x := a) (e := a) (o := exo a C none) (h' := h3) (by rw [ea]; exact True.intro) (.inl rfl) k3 ⟨_, hx⟩ (exo_ok hx)
  have eu : upd H a (exo a C none) = H := by
    funext b
    by_cases hb : b = a
    · rw [hb, upd_same, ea]
    · rw [upd_ne hb]
  rw [eu] at J
  refine wpAt_of_wpAny ?_
  refine wpAny_mono ((hrest A outer s H).run [] _ _ H _ J ht) (fun fl s' hs => fin2 fl s' hs) fun e' s' hs => hs.elim
end
end Y

/-! Y18: raise C(..), defs that raise, their calls. -/
namespace Y
open PySem PySem.Spec PyProof.Rows L2
open PySem.W (ksEnv ksFn kxs_mw)

/-! ### C(..), no arguments -/
section
variable {X : Cx} {p pos : Pos} {e : Expr} {es : List Expr} {ta : TA}
theorem pmk_oex0 {CX : CXT} {x : Str} {C fI : Addr} {k : Nat} {fd : FuncData} {ps : List Str} {sp : Sp} (T : OexC X.K C) (iC : PySem.W.findIn X.K (.ref C) "__init__" = some (some (.ref fI))) (tI : PySem.W.typeIn X.K (.ref fI) = some (.type "function"))
    (F1 : FnOk X.prog X.w X.K X.mg X.base CX k fI fd ps sp) (hr : Room (k + 1) X.A) (hb : Binds X.K fd ps []) (hx : Passes CX X (fun _ _ _ => False)) (hg : Gl X x) (hm : X.mg x = some (.ref C))
    (hdb : (x == ("__debug__" : Str)) = false := by decide) : PMk X (.Call (.Name x p) [] [] pos) (tMkO C sp [] tNil) := by
  intro pins s σ H Q I h
  obtain ⟨nm, q, N, bs, bm, sn, sub, ab, col, dd, k0, k1, k2, k3, k5, hC, hbm⟩ := T.cls
  refine wpAny_Call_Name_kw (ld_glob I hg hm ?_ hdb)
  refine PySem.W.callWith_K0 I.kIn T.kC ?_
  obtain ⟨hz, q1⟩ := h
  obtain ⟨hp, g, dr, tk, os⟩ := s
  have hsz : hp.objs.size ≤ hp.objs.size + 1 := Nat.le_succ _
  have hn : H (hp.objs.size + 1) = none := I.hok.fresh hsz
  have hq := q1 (hp.objs.size + 1) hn
  have kk : ∀ b o, hp.get? b = some o → ((hp.push (PySem.W.kdv_tup [])).push (PySem.HandSPX.excO C hp.objs.size)).get? b = some o := fun b o e => Heap.get?_push_of_some _ (Heap.get?_push_of_some _ e)
  have hget : ((hp.push (PySem.W.kdv_tup [])).push (PySem.HandSPX.excO C hp.objs.size)).get? (hp.objs.size + 1) = some (PySem.HandSPX.excO C hp.objs.size) := by heap_get
  have I2 : Inv X pins σ (upd H (hp.objs.size + 1) (exo (hp.objs.size + 1) C none)) ⟨(hp.push (PySem.W.kdv_tup [])).push (PySem.HandSPX.excO C hp.objs.size), g, dr, tk, os⟩ :=
    I.laid (t' := tk) (a := hp.objs.size + 1) (o := exo (hp.objs.size + 1) C none) (h' := (hp.push (PySem.W.kdv_tup [])).push (PySem.HandSPX.excO C hp.objs.size)) kk hsz (exo_ok hget)
  have r2 : Vals [V.ref (hp.objs.size + 1)] [Value.ref (hp.objs.size + 1)] := .cons rfl .nil
  have hl : ([Value.ref (hp.objs.size + 1)] ++ []).length = ps.length := by
    have e := F1.len _ _ _ _ hq
    exact e
  refine wpAny_call (PySem.HandSPX.call_own F.excBase_ValueError (fun Y => PySem.HandSPX.refsVE_contains Y bm hbm) (I.kIn _ _ hC) (PySem.W.looks_findIn I.kIn iC) (fun self => PySem.W.bind_fn I.kIn self tI) (Nat.zero_le _)
    (codeAny_mono (F1.run _ X.stack _ _ ⟨[Value.ref (hp.objs.size + 1)], []⟩ [Value.ref (hp.objs.size + 1)] _ _ (fun _ _ _ => False) (hr.make C [] []) (I2.env0.make C [] []) (hb _ [Value.ref (hp.objs.size + 1)] I2.kIn hl) r2 hq) fun r s' hq' => ?_))
  cases r with
  | error er => exact hx pins σ _ _ er s' I2 hq'
  | ok fl =>
    cases fl with
    | ret u =>
      obtain ⟨v, H2, os2, bare2, un2, hok2, rv, ev, d, fs, ea, ed, hd1, q2⟩ := hq'
      subst ev
      obtain ⟨h2, g2, d2, t2, os'⟩ := s'
      exact ⟨rv, mk_end (raises_own T.exC T.tyC) I hsz kk un2 hok2 os2 bare2 ea ed hd1 q2⟩
    | next => exact False.elim hq'
    | brk => exact False.elim hq'
    | cont => exact False.elim hq'
end

/-! ### the two forms of such an __init__ -/
def tSay0 (K : PySem.W.Frag) (T : Str) : TS := tOst K "tag" (tVar 0) (tC (.str T))
def tSay1 (K : PySem.W.Frag) (T g : Str) : TS := tSeq (tOst K "tag" (tVar 0) (tC (.str T))) (tOst K g (tVar 0) (tVar 1))
theorem heap_end {H : Hp} {a d : Addr} {o0 o1 o2 o3 : HO} (hda : d ≠ a) (ha : H a = none) : upd (L2.del (upd (upd (upd H a o0) d o1) a o2) a) d o3 = upd H d o3 := by
  funext b
  by_cases h : b = d
  · subst h; rw [upd_same, upd_same]
  · rw [upd_ne h, upd_ne h]
    by_cases h2 : b = a
    · subst h2; rw [del_same, ha]
    · rw [del_ne h2, upd_ne h2, upd_ne h, upd_ne h2]
/-- what the making of an exception tells: its dict is new -/
def tExc (C : Addr) (fs : List (Str × V)) (H : Hp) (Q : XK) : Prop := ∀ d, H d = none → Q (.ref C) (some d) (upd H d (.xd fs))
theorem say0_end {K : PySem.W.Frag} {C : Addr} {T : Str} {H : Hp} {Q : XK} (O : OexC K C) (ht : PySem.W.findIn K (.ref C) "tag" = some none) (h : tExc C [("tag", .str T)] H Q) {a : Addr} (ha : H a = none) :
    spSay ["self"] C (tSay0 K T) [.ref a] (upd H a (exo a C none)) (fun v H2 => v = .non ∧ ∃ (d : Addr) (fs : List (Str × V)), H2 a = some (exo a C (some d)) ∧ H2 d = some (exd d fs) ∧ H d = none ∧ Q (.ref C) (some d) (upd (L2.del H2 a) d (.xd fs))) (fun _ _ _ => False) := by
  refine ⟨rfl, a, [], rfl, upd_same, ⟨.ref a, rfl, a, C, rfl, O, ht, .inl ⟨upd_same, fun d hd hne => ⟨rfl, d, [("tag", .str T)], upd_same, ?_, ?_, ?_⟩⟩⟩⟩
  · rw [upd_ne hne, upd_same]
  · rwa [upd_ne hne] at hd
  · rw [upd_ne hne] at hd
    rw [heap_end hne ha]
    exact h d hd
theorem say1_end {K : PySem.W.Frag} {C : Addr} {T g : Str} {v : V} {H : Hp} {Q : XK} {pn : Str} (O : OexC K C) (ht : PySem.W.findIn K (.ref C) "tag" = some none) (hg : PySem.W.findIn K (.ref C) g = some none) (h : tExc C [(g, v), ("tag", .str T)] H Q) {a : Addr} (ha : H a = none) :
    spSay ["self", pn] C (tSay1 K T g) [.ref a, v] (upd H a (exo a C none)) (fun v H2 => v = .non ∧ ∃ (d : Addr) (fs : List (Str × V)), H2 a = some (exo a C (some d)) ∧ H2 d = some (exd d fs) ∧ H d = none ∧ Q (.ref C) (some d) (upd (L2.del H2 a) d (.xd fs))) (fun _ _ _ => False) := by
  refine ⟨rfl, a, [v], rfl, upd_same, ⟨.ref a, rfl, a, C, rfl, O, ht, .inl ⟨upd_same, fun d hd hne => ⟨v, rfl, .ref a, rfl, a, C, rfl, O, hg, .inr ⟨d, [("tag", .str T)], upd_same, ?_, by simp, rfl, d, [(g, v), ("tag", .str T)], ?_, upd_same, ?_, ?_⟩⟩⟩⟩⟩
  · rw [upd_ne hne, upd_same]
  · rw [upd_ne (Ne.symm hne), upd_same]
  · rwa [upd_ne hne] at hd
  · rw [upd_ne hne] at hd
    have e : upd (L2.del (upd (upd (upd (upd H a (exo a C none)) d (exd d [("tag", V.str T)])) a (exo a C (some d))) d (exd d [(g, v), ("tag", .str T)])) a) d (.xd [(g, v), ("tag", .str T)]) = upd H d (.xd [(g, v), ("tag", .str T)]) := by
      funext b
      by_cases h : b = d
      · subst h; rw [upd_same, upd_same]
      · rw [upd_ne h, upd_ne h]
        by_cases h2 : b = a
        · subst h2; rw [del_same, ha]
        · rw [del_ne h2, upd_ne h, upd_ne h2, upd_ne h, upd_ne h2]
    rw [e]
    exact h d hd

/-! ### raise C(..) -/
def sRaise0 (c : Nat) (T : Str) : SMm := fun σ st => .exc ⟨c, [.str T]⟩ σ st
def sRaise1 (c : Nat) (m : EM) (T : Str) : SMm := fun σ st => (m σ st).to σ fun w st1 => match w with
  | .p x => .exc ⟨c, [x, .str T]⟩ σ st1
  | _ => .no
/-- an exception class of the layer: its number, its name for the tag, its own field -/
structure Exc0 (P : Program) (w : World) (K : PySem.W.Frag) (mg : Str → Option Value) (base : Heap) (cl : Cls) (k c : Nat) (C : Addr) (T : Str) : Prop where
  at_ : cl[c]? = some (C, [("tag" : Str)])
  O : OexC K C
  tag : PySem.W.findIn K (.ref C) "tag" = some none
  ex : ∃ fI fd, PySem.W.findIn K (.ref C) "__init__" = some (some (.ref fI)) ∧ PySem.W.typeIn K (.ref fI) = some (.type "function") ∧ FnOk P w K mg base CX0 k fI fd ["self"] (spSay ["self"] C (tSay0 K T)) ∧ Binds K fd ["self"] []
structure Exc1 (P : Program) (w : World) (K : PySem.W.Frag) (mg : Str → Option Value) (base : Heap) (cl : Cls) (k c : Nat) (C : Addr) (T f pn : Str) : Prop where
  at_ : cl[c]? = some (C, [f, ("tag" : Str)])
  O : OexC K C
  tag : PySem.W.findIn K (.ref C) "tag" = some none
  fld : PySem.W.findIn K (.ref C) f = some none
  ex : ∃ fI fd, PySem.W.findIn K (.ref C) "__init__" = some (some (.ref fI)) ∧ PySem.W.typeIn K (.ref fI) = some (.type "function") ∧ FnOk P w K mg base CX0 k fI fd ["self", pn] (spSay ["self", pn] C (tSay1 K T f)) ∧ Binds K fd ["self", pn] []
section
variable {K : PySem.W.Frag} {cl : Cls} {X : Cx} {Wx : WX} {E0 : En} {ρ ρ' : List Addr} {G G' : Hp} {σ : Sg} {τ : L2.St} {st : List Cell} {H : Hp} {D : Ends}
theorem exc_new {C : Addr} {c : Nat} {ns : List Str} {vs : List V} {l : List P} (hC : cl[c]? = some (C, ns)) (hl : ns.length = vs.length) (R : (bs K cl E0).Rel ρ G st H) (S : RS K cl ρ G σ τ) (r : RPs K cl G l vs) (h : AftS (bs K cl E0) ρ G (.exc ⟨c, l⟩ σ st) D Wx) :
    tExc C (ns.zip vs) H fun cls d H' => Wx cls d τ H' := by
  intro d hd
  refine h ρ (upd G d (.xd (ns.zip vs))) (upd H d (.xd (ns.zip vs))) τ (.ref C) (some d) (List.prefix_refl _) (Sub.new (R.gnone hd)) (R.froze hd) (S.mono (List.prefix_refl _) (Sub.new (R.gnone hd))) ?_
  exact ⟨C, ns, d, vs, hC, rfl, rfl, upd_same, hl, r.mono (Sub.new (R.gnone hd))⟩
theorem ss_raise0 {C : Addr} {k c : Nat} {T x : Str} {p pos pos2 : Pos} (B : Exc0 X.prog X.w X.K X.mg X.base cl k c C T) (g : GX K X) (tk : Takes X Wx) (hr : Room (k + 1) X.A) (hg : Gl X x) (hm : X.mg x = some (.ref C)) (hdb : (x == ("__debug__" : Str)) = false) :
    SS K cl X Wx (sRaise0 c T) (.Raise (some (.Call (.Name x p) [] [] pos)) none pos2) := by
  obtain ⟨hK, hc, _⟩ := g
  subst hK
  obtain ⟨fI, fd, h1, h2, h3, h4⟩ := B.ex
  refine ⟨fun E0 ρ G σ st τ H D R S h => TS'.of (ps_raise hc tk (pmk_oex0 B.O h1 h2 h3 hr h4 pass0 hg hm hdb)) ?_⟩
  have e := exc_new (vs := [.str T]) B.at_ rfl R S (.cons (.str T) .nil) h
  exact ⟨Nat.zero_le _, fun a ha => say0_end B.O B.tag e ha⟩
theorem ss_raise1 {C : Addr} {k c : Nat} {tg f pn x : Str} {p pos pos2 : Pos} {a : EM} {e : Expr} (B : Exc1 X.prog X.w X.K X.mg X.base cl k c C tg f pn) (g : GX K X) (tk : Takes X Wx) (hr : Room (k + 1) X.A) (hg : Gl X x) (hm : X.mg x = some (.ref C)) (ha : SE K cl X Wx a e)
    (hdb : (x == ("__debug__" : Str)) = false) (he : starEach [e] X.env = (false, eval e X.env) :: starEach [] X.env := by rfl) (hpl : (backTo pos (starEach [] X.env)).any (·.1) = false := by rfl) :
    SS K cl X Wx (sRaise1 c a tg) (.Raise (some (.Call (.Name x p) [e] [] pos)) none pos2) := by
  obtain ⟨hK, hc, _⟩ := g
  subst hK
  obtain ⟨fI, fd, h1, h2, h3, h4⟩ := B.ex
  refine ⟨fun E0 ρ G σ st τ H D R S h => TS'.of (ps_raise hc tk (pmk_oex B.O h1 h2 h3 hr h4 .nil pass0 hg hm (pa_cons T.pe pa_nil he) hdb he hpl)) ?_⟩
  refine ha.run E0 ρ G σ st τ H _ R S (AftS.seq S h fun w st1 ρ1 G1 H1 v e1 p1 s1 R1 u1 h' => ?_)
  split at h'
  case h_2 => exact h'.elim
  have S1 := S.mono p1 s1
  have en := exc_new (vs := [v, .str tg]) B.at_ rfl R1 S1 (.cons u1 (.cons (.str tg) .nil)) h'
  exact ⟨by simp, fun y hy => say1_end B.O B.tag B.fld en hy⟩
/-! ### a def that may raise -/
def runX (np N : Nat) (m : SMm) : FM := fun ws st => if ws.length = np then match m (ws.map some ++ List.replicate (N - np) none) st with
  | .ok .nx _ st1 => .ok (.p .non) st1
  | .ok (.rt w) _ st1 => .ok w st1
  | .exc x _ st1 => .exc x st1
  | _ => .no
  else .no
abbrev cxE (P : Program) (w : World) (K : PySem.W.Frag) (mg : Str → Option Value) (base : Heap) (N : List Str) (qual : Str) (scope : Scope) (f : Addr) (cd : Value) (A : Around) (outer : List Env) (s : Shared) (H : Hp) (E : XK) : Cx :=
  cxOf (L2.CX P w) P w K mg base N qual scope f cd A outer s H E
abbrev WE (E : XK) : WX := fun c d _ H => E c d H
theorem gx_ofE {P : Program} {w : World} {mg : Str → Option Value} {base : Heap} {N ps : List Str} {qual : Str} {scope : Scope} {f : Addr} {cd : Value} {A : Around} {outer : List Env} {s : Shared} {H : Hp} {E : XK} {k : Nat}
    (S : FnScope N ps scope) (hr : Room k (A.deeper (envOfC qual scope s.heap.objs.size f cd))) : GX K (cxE P w K mg base N qual scope f cd A outer s H E) :=
  ⟨rfl, rfl, S.nd, by have := hr.un; show (A.deeper _).units + 65 < cLine; omega, hr.hd⟩
theorem tk_ofE {P : Program} {w : World} {mg : Str → Option Value} {base : Heap} {N : List Str} {qual : Str} {scope : Scope} {f : Addr} {cd : Value} {A : Around} {outer : List Env} {s : Shared} {H : Hp} {E : XK} : Takes (cxE P w K mg base N qual scope f cd A outer s H E) (WE E) := takes_of rfl rfl rfl rfl
theorem fn_okX {P : Program} {w : World} {mg : Str → Option Value} {base : Heap} {N ps : List Str} {x qual : Str} {params : Arguments} {body : List Stmt} {scope : Scope} {dvs : List V} {kws : List (Str × V)} {f : Addr} {fd : FuncData} {k : Nat} {m : SMm}
    (F : FunD K x qual params body scope dvs kws f fd) (S : FnScope N ps scope) (hb : ∀ (cd : Value) (A : Around) (outer : List Env) (s : Shared) (H : Hp) (E : XK), Room k (A.deeper (envOfC qual scope s.heap.objs.size f cd)) → SSs K cl (cxE P w K mg base N qual scope f cd A outer s H E) (WE E) m body) :
    FnOk P w K mg base (L2.CX P w) (k + 1) f fd ps (spF K cl (runX ps.length N.length m)) := by
  refine F.ok S (fun vs H Q E h => ?_) (fun cd A outer s H vs Q E hr h => ⟨TSs' (cxE P w K mg base N qual scope f cd A outer s H E) body, TSs'.pss, ?_⟩)
  · obtain ⟨ρ0, G0, st0, ws, R, r, a⟩ := h
    unfold runX at a
    split at a
    · rename_i hl; rw [← r.length]; exact hl
    · exact a.elim
  · obtain ⟨ρ0, G0, st0, ws, R, r, a⟩ := h
    unfold runX at a
    split at a
    case isFalse => exact a.elim
    rename_i hl
    have lv : vs.length = ps.length := by rw [← r.length]; exact hl
    refine (hb cd A outer s H E hr).run ⟨strip H, ρ0.length, G0⟩ ρ0 G0 (ws.map some ++ List.replicate (N.length - ps.length) none) st0 (L2.start N vs) H _ R ?_ ?_
    · unfold L2.start
      rw [lv]
      refine ⟨by rw [List.length_append, List.length_append, List.length_map, List.length_map, hl, lv, List.length_replicate, List.length_replicate], fun i w' e => ?_⟩
      rcases app_cut e with ⟨h1, h2⟩ | ⟨h1, h2⟩
      · rw [List.length_map] at h1
        rw [List.getElem?_map] at h2
        cases q : ws[i]? with
        | none => rw [q] at h2; cases h2
        | some u =>
          rw [q] at h2
          have h2 : some (some u) = some (some w') := h2
          cases h2
          obtain ⟨v, ev, rv⟩ := r.get q
          refine ⟨v, ?_, rv⟩
          rw [List.getElem?_append_left (by rw [List.length_map, lv, ← hl]; exact h1), List.getElem?_map, ev]; rfl
      · rw [List.getElem?_replicate] at h2
        split at h2 <;> cases h2
    · generalize m (ws.map some ++ List.replicate (N.length - ps.length) none) st0 = res at a ⊢
      cases res with
      | no => exact a.elim
      | exc x σ st => exact fun ρ' G' H' τ' cls d p s R' S' u => a ρ' G' H' cls d p s R' u
      | ok fl σ st =>
        cases fl with
        | nx => exact fun ρ' G' H' τ' p s R' S' => a ρ' G' H' .non p s R' RP.non
        | rt u => exact fun ρ' G' H' τ' p s R' S' v rv => a ρ' G' H' v p s R' rv
        | bk => exact a.elim
        | ct => exact a.elim
/-- a def of the program that may raise -/
structure Xk (P : Program) (w : World) (K : PySem.W.Frag) (mg : Str → Option Value) (base : Heap) (cl : Cls) (k : Nat) (f : Addr) (ps : List Str) (F : FM) : Prop where
  ex : ∃ fd, FnOk P w K mg base (L2.CX P w) k f fd ps (spF K cl F) ∧ Binds K fd ps []
  kp : PySem.W.keepIn K (.ref f) = true
theorem Xk.of {P : Program} {w : World} {mg : Str → Option Value} {base : Heap} {N ps : List Str} {x qual : Str} {params : Arguments} {body : List Stmt} {scope : Scope} {f : Addr} {k : Nat} {m : SMm}
    (F : ∃ fd, FunD K x qual params body scope [] [] f fd) (S : FnScope N ps scope) (bd : ∀ (kV doc pm : Value) (an : Option Addr) (cdv ct : Value) (us : List Value), us.length = ps.length → bindArgs (PySem.W.fnOf x qual params body scope .none kV doc pm an cdv ct) ⟨us, []⟩ = pure (ps.zip us))
    (hb : ∀ (cd : Value) (A : Around) (outer : List Env) (s : Shared) (H : Hp) (E : XK), GX K (cxE P w K mg base N qual scope f cd A outer s H E) → Takes (cxE P w K mg base N qual scope f cd A outer s H E) (WE E) → Room k (A.deeper (envOfC qual scope s.heap.objs.size f cd)) → SSs K cl (cxE P w K mg base N qual scope f cd A outer s H E) (WE E) m body) :
    Xk P w K mg base cl (k + 1) f ps (runX ps.length N.length m) := by
  obtain ⟨fd, F⟩ := F
  exact ⟨⟨fd, fn_okX F S fun cd A outer s H E hr => hb cd A outer s H E (gx_ofE S hr) tk_ofE hr, F.bindsN bd⟩, F.kp⟩
theorem Xk.mono {P : Program} {w : World} {mg : Str → Option Value} {base : Heap} {j k : Nat} {f : Addr} {ps : List Str} {F : FM} (h : Xk P w K mg base cl j f ps F) (q : j ≤ k) : Xk P w K mg base cl k f ps F := by
  obtain ⟨⟨fd, h1, h2⟩, h3⟩ := h
  exact ⟨⟨fd, h1.mono q, h2⟩, h3⟩
end
end Y

/-! Y19: calls of defs that may raise. -/
namespace Y
open PySem PySem.Spec PyProof.Rows L2
/-- a wish about exceptions that looks at no name of the def -/
def WI (Wx : WX) : Prop := ∀ c d σ σ' H, Wx c d σ H → Wx c d σ' H
theorem WI.e {E : XK} : WI (WE E) := fun _ _ _ _ _ h => h
section
variable {K : PySem.W.Frag} {cl : Cls} {X : Cx} {Wx : WX} {E0 : En} {ρ ρ' : List Addr} {G G' : Hp} {σ : Sg} {τ : L2.St} {st : List Cell} {H : Hp} {D : Ends}
variable {f : Addr} {fd : FuncData} {ps : List Str} {F : FM} {a : AM} {k : Nat} {x m : Str} {p pos apos : Pos} {e : Expr} {es : List Expr}
def mCallX (F : FM) (a : AM) : EM := fun σ st => (a σ st).bind fun ws st1 => callF F ws st1
def mMethX (c : Nat) (F : FM) (o : EM) (a : AM) : EM := fun σ st => (o σ st).bind fun w st1 => if clsOf st1 w = some c then (a σ st1).bind fun ws st2 => callF F (w :: ws) st2 else .no
theorem callXK (h : Xk X.prog X.w X.K X.mg X.base cl k f ps F) (g : GX K X) (tk : Takes X Wx) (wi : WI Wx) (hr : Room k X.A) (hg : Gl X x) (hm : X.mg x = some (.ref f))
    (ha : SA K cl X Wx a (e :: es)) (hdb : (x == ("__debug__" : Str)) = false) (he : starEach (e :: es) X.env = (false, eval e X.env) :: starEach es X.env := by rfl) (hpl : (backTo pos (starEach es X.env)).any (·.1) = false := by rfl) :
    SE K cl X Wx (mCallX F a) (.Call (.Name x p) (e :: es) [] pos) := by
  obtain ⟨hK, _⟩ := g
  subst hK
  obtain ⟨fd, h1, h2⟩ := h.ex
  refine ⟨fun E0 ρ G σ st τ H Q R S h' => T.of (pe_call (E := fun c d H' => Wx c d τ H') h1 hr hg hm h.kp h2 .nil (passes_call tk fun c d σ H q => wi c d τ σ H q) TA'.pa hdb he hpl) ?_⟩
  refine ha.run E0 ρ G σ st τ H _ R S (Aft.seq h' fun ws st1 ρ1 G1 H1 vs e1 p1 s1 R1 u1 h1 => ?_)
  rw [List.append_nil]
  exact callF_ok R1 u1 h1
theorem callXK0 (h : Xk X.prog X.w X.K X.mg X.base cl k f ps F) (g : GX K X) (tk : Takes X Wx) (wi : WI Wx) (hr : Room k X.A) (hg : Gl X x) (hm : X.mg x = some (.ref f)) (hdb : (x == ("__debug__" : Str)) = false) :
    SE K cl X Wx (mCallX F mNil) (.Call (.Name x p) [] [] pos) := by
  obtain ⟨hK, _⟩ := g
  subst hK
  obtain ⟨fd, h1, h2⟩ := h.ex
  refine ⟨fun E0 ρ G σ st τ H Q R S h' => T.of (pe_call0 (E := fun c d H' => Wx c d τ H') h1 hr hg hm h.kp h2 .nil (passes_call tk fun c d σ H q => wi c d τ σ H q) hdb) ?_⟩
  exact callF_ok R .nil h'
theorem methXK {C : Addr} {ns : List Str} {c : Nat} {o : EM} {eo : Expr} {pl : Sem Bool} (h : Xk X.prog X.w X.K X.mg X.base cl k f ps F) (g : GX K X) (tk : Takes X Wx) (wi : WI Wx) (hr : Room k X.A) (hC : cl[c]? = some (C, ns)) (hn : ns.contains m = false) (kc : L2.Cls K C) (hmt : Meth K C m f)
    (ho : SE K cl X Wx o eo) (ha : SA K cl X Wx a (e :: es))
    (hst : starEach (e :: es) X.env = (false, eval e X.env) :: starEach es X.env := by rfl) (hpl : (backTo pos (starEach es X.env)).any (·.1) = false := by rfl)
    (ht : eval (.Call (.Attribute eo m apos) (e :: es) [] pos) X.env = (do
      let ov ← eval eo X.env
      standAt apos.atName
      let (f, first) ← holding [ov] (getMethod ov m pl)
      callWith pos f first (backTo pos (starEach (e :: es) X.env)) (backToKw pos (keywordEach [] X.env))) := by rfl) : SE K cl X Wx (mMethX c F o a) (.Call (.Attribute eo m apos) (e :: es) [] pos) := by
  obtain ⟨hK, _⟩ := g
  subst hK
  obtain ⟨fd, h1, h2⟩ := h.ex
  have hn' : m ∉ ns := fun z => by rw [List.contains_iff_mem.mpr z] at hn; cases hn
  refine ⟨fun E0 ρ G σ st τ H Q R S h => T.of (pe_meth (E := fun c d H' => Wx c d τ H') T.pe kc hmt h1 hr h2 .nil (passes_call tk fun c d σ H q => wi c d τ σ H q) TA'.pa hst hpl ht) ?_⟩
  refine ho.run E0 ρ G σ st τ H _ R S (Aft.seq h fun w st1 ρ1 G1 H1 v e1 p1 s1 R1 u1 h1 => ?_)
  split at h1
  case isFalse => exact h1.elim
  rename_i ec
  obtain ⟨b, dx, vs, rfl, hH⟩ := clsOf_ok R1 u1 ec hC
  refine ⟨b, dx, _, rfl, hH, zip_lookup_none hn', ?_⟩
  refine ha.run E0 ρ1 G1 σ st1 τ H1 _ R1 (S.mono p1 s1) (Aft.seq h1 fun ws st2 ρ2 G2 H2 us e2 p2 s2 R2 u2 h2 => ?_)
  rw [List.append_nil]
  exact callF_ok R2 (.cons (RW.mono p2 s2 u1) u2) h2
theorem methXK0 {C : Addr} {ns : List Str} {c : Nat} {o : EM} {eo : Expr} {pl : Sem Bool} (h : Xk X.prog X.w X.K X.mg X.base cl k f ps F) (g : GX K X) (tk : Takes X Wx) (wi : WI Wx) (hr : Room k X.A) (hC : cl[c]? = some (C, ns)) (hn : ns.contains m = false) (kc : L2.Cls K C) (hmt : Meth K C m f)
    (ho : SE K cl X Wx o eo)
    (ht : eval (.Call (.Attribute eo m apos) [] [] pos) X.env = (do
      let ov ← eval eo X.env
      standAt apos.atName
      let (f, first) ← holding [ov] (getMethod ov m pl)
      callWith pos f first (backTo pos (starEach [] X.env)) (backToKw pos (keywordEach [] X.env))) := by rfl) : SE K cl X Wx (mMethX c F o mNil) (.Call (.Attribute eo m apos) [] [] pos) := by
  obtain ⟨hK, _⟩ := g
  subst hK
  obtain ⟨fd, h1, h2⟩ := h.ex
  have hn' : m ∉ ns := fun z => by rw [List.contains_iff_mem.mpr z] at hn; cases hn
  refine ⟨fun E0 ρ G σ st τ H Q R S h => T.of (pe_meth0 (E := fun c d H' => Wx c d τ H') T.pe kc hmt h1 hr h2 .nil (passes_call tk fun c d σ H q => wi c d τ σ H q) ht) ?_⟩
  refine ho.run E0 ρ G σ st τ H _ R S (Aft.seq h fun w st1 ρ1 G1 H1 v e1 p1 s1 R1 u1 h1 => ?_)
  split at h1
  case isFalse => exact h1.elim
  rename_i ec
  obtain ⟨b, dx, vs, rfl, hH⟩ := clsOf_ok R1 u1 ec hC
  refine ⟨b, dx, _, rfl, hH, zip_lookup_none hn', ?_⟩
  show spF X.K cl F (V.ref b :: ([] ++ [])) H1 Q (fun c d H' => Wx c d τ H')
  exact callF_ok R1 (.cons u1 .nil) (ws := [w]) (vs := [.ref b]) h1
/-! C(..) whose __init__ may raise -/
def makeX (c n : Nat) (F : FM) (ws : List W) (st : List Cell) : Res W :=
  if (argRefs ws).Nodup then match getCells st (argRefs ws) with
    | some cs => match F (.r 0 :: argIn 1 ws) (.ins c [] :: cs) with
      | .ok (.p .non) st' => if ((st'.drop 1).take (argRefs ws).length).all plainC = true ∧ 1 + (argRefs ws).length ≤ st'.length then match (st'[0]? : Option Cell) with
          | some (Cell.ins c' l) => match pures l with
            | some m => if c' = c ∧ m.length = n then .ok (.p (.obj c m)) (putCells (argRefs ws) (st'.drop 1) st) else .no
            | none => .no
          | _ => .no
        else .no
      | .exc x st' => if ((st'.drop 1).take (argRefs ws).length).all plainC = true ∧ 1 + (argRefs ws).length ≤ st'.length then .exc x (putCells (argRefs ws) (st'.drop 1) st) else .no
      | _ => .no
    | none => .no
  else .no
def mMakeX (c n : Nat) (F : FM) (a : AM) : EM := fun σ st => (a σ st).bind fun ws st1 => makeX c n F ws st1
theorem makeX_ok {c n : Nat} {C : Addr} {ns : List Str} {ws : List W} {vs : List V} {Q : VK} {Z : ZX} (hC : cl[c]? = some (C, ns)) (hn : ns.length = n) (R : (bs K cl E0).Rel ρ G st H) (r : RWs K cl ρ G ws vs) (h : Aft (bs K cl E0) (bs K cl E0).RW ρ G (makeX c n F ws st) Q Z)
    {x dx : Addr} (hx : H x = none) (hdx : H dx = none) (hne : dx ≠ x) : spF K cl F (.ref x :: vs) (upd (upd H dx (.own x)) x (.ins C dx [])) (fun v H2 => v = .non ∧ Q (.ref x) H2) Z := by
  unfold makeX at h
  split at h
  case isFalse => exact h.elim
  rename_i nd
  split at h
  case h_2 => exact h.elim
  rename_i cs hc
  generalize hHm : upd (upd H dx (.own x)) x (.ins C dx []) = Hm
  have up : Sub H Hm := fun a o e => by
    rw [← hHm, upd_ne (ne_of_none e hx), upd_ne (ne_of_none e hdx)]; exact e
  have nx : ∀ y ∈ [x], H y = none := fun y m => by
    have : y = x := by simpa using m
    subst this; exact hx
  have lr : (rhos ρ (argRefs ws)).length = (argRefs ws).length := List.length_map ..
  refine ⟨[x] ++ rhos ρ (argRefs ws), G, [.ins c []] ++ cs, .r 0 :: argIn 1 ws, Rel.enter R nd hc up nx (by simp) rfl (fun i d y e1 e2 => ?_), .cons ⟨x, rfl, rfl⟩ (rws_argIn 1 r fun j i e => ?_), ?_⟩
  · have hi : i = 0 := by
      have := (List.getElem?_eq_some_iff.mp e1).1
      simpa using this
    subst hi
    cases e1
    cases e2
    exact ⟨C, dx, ns, [], hC, by rw [← hHm, upd_same]; simp, Nat.zero_le _, .nil⟩
  · obtain ⟨a, h1, h2⟩ := rhos_at R hc e
    refine ⟨a, h1, ?_⟩
    rw [List.getElem?_append_right (by simp)]
    show (rhos ρ (argRefs ws))[1 + j - 1]? = some a
    rw [show 1 + j - 1 = j by omega]; exact h2
  · have e0 : ([.ins c []] ++ cs : List Cell) = .ins c [] :: cs := rfl
    rw [e0]
    generalize F (.r 0 :: argIn 1 ws) (.ins c [] :: cs) = res at h ⊢
    split at h
    case h_3 => exact h.elim
    case h_2 =>
      rename_i xx st'
      intro ρ' G' H' cls d p s R' u
      by_cases hp : ((st'.drop 1).take (argRefs ws).length).all plainC = true ∧ 1 + (argRefs ws).length ≤ st'.length
      case neg => rw [if_neg hp] at h; exact h.elim
      rw [if_pos hp] at h
      exact h ρ G' H' cls d (List.prefix_refl _) s (Rel.ret R nd hc up nx p s R' hp.1 (by simpa using hp.2)) u
    rename_i st'
    intro ρ' G' H' v p s R' u
    cases u
    by_cases hp : ((st'.drop 1).take (argRefs ws).length).all plainC = true ∧ 1 + (argRefs ws).length ≤ st'.length
    case neg => rw [if_neg hp] at h; exact h.elim
    rw [if_pos hp] at h
    split at h
    case h_2 => exact h.elim
    rename_i c' l e1
    split at h
    case h_2 => exact h.elim
    rename_i m em
    split at h
    case isFalse => exact h.elim
    rename_i hh
    obtain ⟨rfl, hm⟩ := hh
    have R2 := Rel.ret R nd hc up nx p s R' hp.1 (by simpa using hp.2)
    have px : ρ'[0]? = some x := by
      obtain ⟨tl, rfl⟩ := p
      rfl
    obtain ⟨C', dx', ns', us, k1, k2, k3, k4⟩ := R'.cell 0 _ x e1 px
    rw [hC] at k1; cases k1
    have gx : G' x = none := (R'.sep 0 _ x e1 px).resolve_left (fun z => by cases z)
    have q := k4.pures em
    have hl : ns.length = us.length := by rw [← q.length, hm, hn]
    have R3 := Rel.adopt R2 k2 gx (fun i e => by
      obtain ⟨o, q⟩ := R.there e
      rw [hx] at q; cases q) (R.fresh0 hx)
    refine ⟨rfl, h ρ (upd G' x _) H' (.ref x) (List.prefix_refl _) (s.trans (Sub.new gx)) R3 ?_⟩
    exact .obj hC upd_same hl (q.mono (Sub.new gx))
theorem makeXK {C : Addr} {ns : List Str} {c n : Nat} (h : Xk X.prog X.w X.K X.mg X.base cl k f ps F) (g : GX K X) (tk : Takes X Wx) (wi : WI Wx) (hr : Room (k + 1) X.A) (hC : cl[c]? = some (C, ns)) (hn : ns.length = n) (M : Mk K C f) (hg : Gl X x) (hm : X.mg x = some (.ref C))
    (ha : SA K cl X Wx a (e :: es)) (hdb : (x == ("__debug__" : Str)) = false) (he : starEach (e :: es) X.env = (false, eval e X.env) :: starEach es X.env := by rfl) (hpl : (backTo pos (starEach es X.env)).any (·.1) = false := by rfl) :
    SE K cl X Wx (mMakeX c n F a) (.Call (.Name x p) (e :: es) [] pos) := by
  obtain ⟨hK, _⟩ := g
  subst hK
  obtain ⟨fd, h1, h2⟩ := h.ex
  refine ⟨fun E0 ρ G σ st τ H Q R S h => T.of (pe_make (E := fun c d H' => Wx c d τ H') M h1 hr hg hm h2 .nil (passes_call tk fun c d σ H q => wi c d τ σ H q) TA'.pa hdb he hpl) ?_⟩
  refine ha.run E0 ρ G σ st τ H _ R S (Aft.seq h fun ws st1 ρ1 G1 H1 vs e1 p1 s1 R1 u1 h1 => ?_)
  intro y dx hy hdx hne
  rw [List.append_nil]
  exact makeX_ok hC hn R1 u1 h1 hy hdx hne
end
end Y

/-! Y20: tables that grow. -/
namespace Y
open PySem PySem.Spec PyProof.Rows L2 LamX
theorem strip_rd {H : Hp} {a : Addr} {u : HO} (h : Rd H a u) (nt : NT u) : Rd (strip H) a u := by
  rcases h with h | ⟨o, h⟩
  · exact .inl (strip_of h nt)
  · exact .inr ⟨o, strip_of h fun _ z => by cases z⟩
theorem strip_sq {K : PySem.W.Frag} {H : Hp} {a : Addr} {xs : List V} (h : SqL K H a xs) : SqL K (strip H) a xs := by
  rcases h with h | h
  · exact .inl (strip_rd h fun _ z => by cases z)
  · exact .inr h
section
variable {K : PySem.W.Frag} {cl : Cls} {E0 : En} {ρ : List Addr} {G : Hp} {st : List Cell} {H H1 : Hp}
/-- a lambda has been made -/
theorem Rel.grown (R : Rel K cl E0 ρ G st H) (eN : ExtN H H1) (T1 : Tabs cl.tb H1) : Rel K cl E0 ρ G st H1 := by
  refine ⟨R.len, R.nd, fun i c a e1 e2 => ?_, R.sep, fun a u e => eN a u (R.sub a u e) (R.gnt a u e), fun a u e q => eN a u (R.old a u e q) (R.ent a u e), R.new, R.n0, R.grow, R.ent, R.gnt, T1⟩
  by_cases hcd : c = .dead
  · subst hcd
    exact R.cell i _ a e1 e2
  · obtain ⟨o, z, po⟩ := (R.cell i c a e1 e2).po hcd
    exact (R.cell i c a e1 e2).mono (List.prefix_refl _) (Sub.refl _) ((eN a o z po.1).trans z.symm)
end
end Y

/-! Y21: try with several named clauses, the first of which takes all that the body lets out. -/
namespace Y
open PySem PySem.Spec PyProof.Rows L2
/-- what is wished of an exception of the body -/
def wFst (K : PySem.W.Frag) (c : Value) (i : Nat) (ts : Addr → Value → Option Addr → TS) (D : Ends) : WX := fun cls d σ H =>
  PySem.W.exmOne K cls c = some true ∧ ∀ a, H a = none → ts a cls d { nx := fun σ' H' => D.nx (σ'.set i none) H', rt := D.rt, bk := fun σ' H' => D.bk (σ'.set i none) H', ct := fun σ' H' => D.ct (σ'.set i none) H' } (σ.set i (some (.ref a))) H
section
variable {X : Cx} {x n : Str} {c : Value} {i : Nat} {body suite : List Stmt} {b₀ : Stmt} {np pos pos' : Pos} {tb : WX → TS} {ts : Addr → Value → Option Addr → TS} {rest : List ExceptHandler}
theorem ps_try_first (hs : X.stack = X.env :: X.outer) (hf : X.env.frame = some X.env.locals) (hN : X.N.Nodup) (hi : X.N[i]? = some n) (hln : X.env.kindOf n = some .local) (hc : Names X x c)
    (hb : ∀ (W : WX) (pn : List (Addr × Obj)) (xe : Value → Shared → Prop), Takes (X.tr pn xe) W → PassesOwn (model X.prog X.w) X.A X.env xe → PSs (X.tr pn xe) body (tb W))
    (hsu : ∀ (a : Addr) (oe : Obj) (cls : Value) (d : Option Addr) (pn : List (Addr × Obj)), Zc cls d oe → (∃ vs, oe.data = .fields vs) → X.base.get? a = none → PSs (X.suite a ((a, oe) :: pn)) (b₀ :: suite) (ts a cls d)) :
    PS X (.Try body (.ExceptHandler (some (.Name x np)) (some n) (b₀ :: suite) pos' :: rest) [] [] pos) (fun D σ H => tb (wFst X.K c i ts D) D σ H) := by
  refine ⟨fun pins s σ H D I h => wpAny_Try_except ?_⟩
  have ok := I.ok
  have hfr : X.A.frames = some (X.env :: X.outer) := by rw [ok.frames, hs]
  refine wpAny_mono ((hb (wFst X.K c i ts D) (X.pn ++ pins) (fun e s₁ => wpAny (model X.prog X.w) X.A (noteFrame e X.env) (fun _ s₂ => wpAny (model X.prog X.w) X.A (setFlight e none) (fun _ s₃ =>
    wpAny (model X.prog X.w) X.A (handleBy e X.env (.ExceptHandler (some (.Name x np)) (some n) (b₀ :: suite) pos' :: rest)) (SP X pins D) X.xe s₃) X.xe s₂) X.xe s₁) (fun u s' xx => ?_) PassesOwn.looking).run [] s σ H D (I.toTry _) h) (fun f s1 hsp => ?_) (fun e s1 he => he)
  case refine_2 =>
    cases f with
    | next => obtain ⟨σ', H', J, q⟩ := hsp; exact wpAny_execs_nil ⟨σ', H', J.ofTry ok, q⟩
    | brk => obtain ⟨σ', H', J, q⟩ := hsp; exact ⟨σ', H', J.ofTry ok, q⟩
    | cont => obtain ⟨σ', H', J, q⟩ := hsp; exact ⟨σ', H', J.ofTry ok, q⟩
    | ret u => obtain ⟨v, σ', H', J, r, q⟩ := hsp; exact ⟨v, σ', H', J.ofTry ok, r, q⟩
  obtain ⟨a, B, sI, pins', σ', H', cls, d, rfl, J', nb, up, sky, na, os, ag, hm, yes⟩ := xx
  have J : Inv X pins σ' H' sI := J'.ofTry ok
  have sky1 : Sky B (X.env :: X.outer) a (Zc cls d) X.env.locals s'.heap := hs ▸ sky
  show wpAny (model X.prog X.w) X.A (noteFrame (.ref a) X.env) _ _ _
  refine Sky.land Zc.steady hfr hf sky1 fun h3 fl3 up3 => ?_
  have J3 : Inv X pins σ' H' { s' with heap := h3 } := J.landed nb fl3.1 (up.trans up3) os ag
  obtain ⟨oe3, vs3, he3, hz3, hd3⟩ := fl3.there
  have nfr : a ∉ frs (X.env :: X.outer) := fun hm => by
    obtain ⟨_, o', e', hnf⟩ := fl3.2.2.1.mem hm
    rw [he3] at e'; cases e'
    exact hnf _ hd3
  have nL : a ≠ X.env.locals := fun z => nfr (List.mem_filterMap.mpr ⟨X.env, List.mem_cons_self, by rw [hf, z]⟩)
  have nF : a ∉ X.fs := fun hm => by
    obtain ⟨e, he, q⟩ := List.mem_filterMap.mp hm
    exact nfr (List.mem_filterMap.mpr ⟨e, List.mem_cons_of_mem _ he, q⟩)
  have nB : X.base.get? a = none := by
    cases e : X.base.get? a with
    | none => rfl
    | some o =>
      have z := nb a o (J.bk a o e) (hs ▸ nfr)
      rw [fl3.2.1] at z; cases z
  have S3 := J3.suite he3 hd3 na nL nF
  have LT : PySem.W.Looks (model X.prog X.w) h3 (typeOf (.ref a)) cls := fun A Q E s k q => wpAny_typeOf_ref (k _ _ he3) (by rw [hz3.1]; exact q)
  have LM := PySem.W.exm_one (M := model X.prog X.w) (J3.kIn) LT hm
  refine wpAny_handleBy_cons (codeAny_handlers_test ?_) (by intro q; cases q)
  have named : ∀ {Q : Value → Shared → Prop} {E : Value → Shared → Prop}, Q c { s' with heap := h3 } → wpAny (model X.prog X.w) (X.A.mark (some (.ref a))) (eval (.Name x np) X.env) Q E { s' with heap := h3 } := fun {Q E} q => by
    obtain ⟨hg, hdbg, hm | ⟨hm, hv, hnn⟩⟩ := hc
    · exact ld_glob (X := X.suite a ((a, oe3) :: (X.pn ++ pins))) S3 hg hm q hdbg
    · exact ld_blt (X := X.suite a ((a, oe3) :: (X.pn ++ pins))) S3 hg hm hv q hnn hdbg
  refine named (LM.here (codeAny_handlers_suite_as ?_))
  refine HandSPX.lands_againZ fl3 fun h4 fl4 up4 => ?_
  have J4 : Inv X pins σ' H' { s' with heap := h4 } := J.landed nb fl4.1 ((up.trans up3).trans up4) os ag
  obtain ⟨oe4, vs4, he4, hz4, hd4⟩ := fl4.there
  refine store_ok (X := X.suite a ((a, oe4) :: (X.pn ++ pins))) (v := .ref a) (J4.suite he4 hd4 na nL nF) hN hi (.inl hln) rfl (fun s5 S5 => ?_) (.inr hln)
  refine wpAny_mono ((hsu a oe4 cls d (X.pn ++ pins) hz4 ⟨_, hd4⟩ nB).run [] s5 _ H' _ S5 (yes a na)) (fun f s6 hsp => ?_) (fun _ _ z => False.elim z)
  have gone : ∀ {σ6 : L2.St} {H6 : Hp} {Q : Shared → Prop}, Inv (X.suite a ((a, oe4) :: (X.pn ++ pins))) [] σ6 H6 s6 → (∀ s7, Inv X pins (σ6.set i none) H6 s7 → Q s7) →
      wpAny (model X.prog X.w) X.A (do bindName X.env n .none; unbindBehindTheSuite X.env n pos') (fun _ s7 => Q s7) X.xe s6 := fun S6 hq => gone_ok (S6.unsuite ok) hN hi hln hq
  cases f with
  | next => obtain ⟨σ6, H6, S6, q⟩ := hsp; exact gone S6 fun s7 J7 => ⟨_, _, J7, q⟩
  | brk => obtain ⟨σ6, H6, S6, q⟩ := hsp; exact gone S6 fun s7 J7 => ⟨_, _, J7, q⟩
  | cont => obtain ⟨σ6, H6, S6, q⟩ := hsp; exact gone S6 fun s7 J7 => ⟨_, _, J7, q⟩
  | ret u => obtain ⟨v6, σ6, H6, S6, r, q⟩ := hsp; exact gone S6 fun s7 J7 => ⟨_, _, _, J7, r, q⟩
end
end Y

/-! Y22: an exception's fields. -/
namespace Y
open PySem PySem.Spec PyProof.Rows L2
/-- the reading of a field of an exception that is known as it stands -/
def tXq (K : PySem.W.Frag) (n : Str) (te : TE) : TE := fun σ H Q => te σ H fun x H1 => ∃ (a C dd : Addr) (oe : Obj) (fs : List (Str × V)) (v : V), x = .ref a ∧ XfC K C ∧ PySem.W.findIn K (.ref C) n = some none ∧
  oe.cls = .ref C ∧ oe.dict = some dd ∧ (∃ vs, oe.data = .fields vs) ∧ H1 a = some (exq a oe) ∧ H1 dd = some (.xd fs) ∧ fs.lookup n = some v ∧ Q v H1
theorem exq_at {P : Program} {w : World} {H : Hp} {h : Heap} {a : Addr} {oe : Obj} (hok : HOk P w H h) (e : H a = some (exq a oe)) : h.get? a = some oe := by
  have x : ObjOk P w H h a (.ext fun h => h.get? a = some oe) := hok a _ e
  exact x.1
section
variable {X : Cx} {e : Expr} {te : TE} {pos : Pos} {n : Str}
theorem pe_xq (he : PE X e te) (hb : attributeBase e n X.env (eval e X.env) = eval e X.env) : PE X (.Attribute e n pos) (tXq X.K n te) := by
  refine ⟨fun pins s σ H Q I h => attr_of hb (thn (he.run pins s σ H _ I h) fun u s1 hh => ?_)⟩
  obtain ⟨x, H1, I1, rx, a, C, dd, oe, fs, v, ex, T, hno, hc, hd, ⟨vs, hv⟩, ea, ed, l, q⟩ := hh
  subst ex
  obtain rfl : u = Value.ref a := rx
  have ha := exq_at I1.hok ea
  have hx : ObjOk X.prog X.w H1 s1.heap dd (.xd fs) := I1.hok dd _ ed
  obtain ⟨mA, hns, hr⟩ := hx
  obtain ⟨od, ho, hl⟩ := lookIn_ns hns
  obtain ⟨u, hu, ru⟩ := RelO.some_of (v := v) (o := mA n) (by rw [← l]; exact hr n)
  have J : PySem.W.InstAt s1.heap a oe C (some od) := ⟨ha, hc, by unfold PySem.W.notCls; rw [hv] <;> rfl, by rw [hd]; exact ho⟩
  exact HandSPX.exc_get I1.kIn J T.ga T.gg T.exC (PySem.W.findObj_own T.hdC hno rfl (by rw [hl, hu])) (handed_of ru) ⟨v, H1, I1.tok _, ru, q⟩
end
def mXf (cs : List (Nat × Nat)) (o : EM) : EM := fun σ st => (o σ st).bind fun w st1 => match w with
  | .p (.exn c l) => match cs.lookup c with
    | some i => match l[i]? with
      | some x => .ok (.p x) st1
      | none => .no
    | none => .no
  | _ => .no
/-- the field stands at that place in the class's exceptions -/
structure XfAt (K : PySem.W.Frag) (cl : Cls) (fn : Str) (c i : Nat) : Prop where
  ex : ∃ C ns, cl[c]? = some (C, ns) ∧ ns.Nodup ∧ ns[i]? = some fn ∧ XfC K C ∧ PySem.W.findIn K (.ref C) fn = some none
section
variable {K : PySem.W.Frag} {cl : Cls} {X : Cx} {Wx : WX}
theorem se_xf {cs : List (Nat × Nat)} {o : EM} {eo : Expr} {fn : Str} {pos : Pos} (g : GX K X) (hcs : ∀ q ∈ cs, XfAt K cl fn q.1 q.2) (ho : SE K cl X Wx o eo) (hb : attributeBase eo fn X.env (eval eo X.env) = eval eo X.env) : SE K cl X Wx (mXf cs o) (.Attribute eo fn pos) := by
  obtain ⟨hK, _⟩ := g
  subst hK
  refine ⟨fun E0 ρ G σ st τ H Q R S h => T.of (pe_xq T.pe hb) ?_⟩
  refine ho.run E0 ρ G σ st τ H _ R S (Aft.seq h fun w st1 ρ1 G1 H1 v e1 p1 s1 R1 u1 h1 => ?_)
  split at h1
  case h_2 => exact h1.elim
  rename_i c l
  split at h1
  case h_2 => exact h1.elim
  rename_i i ei
  split at h1
  case h_2 => exact h1.elim
  rename_i x ex
  obtain ⟨C, ns, k1, nd, k2, T, k3⟩ := (hcs _ (lookup_mem ei)).ex
  cases u1 with
  | @exn a C' dd oe _ ns' vs _ k4 k5 k6 k7 k8 k9 =>
    rw [k1] at k4
    cases k4
    obtain ⟨v, ev, rv⟩ := k9.get ex
    exact ⟨a, C, dd, oe, _, v, rfl, T, k3, k5.1, k5.2.1, k5.2.2, R1.sub _ _ k6, R1.sub _ _ k7, zip_lookup_at nd k2 ev, h1.here R1 rv⟩
end

/-! ### a def called with the exception that the suite holds -/
theorem exq_own {a x : Addr} {oe : Obj} : exq a oe ≠ .own x := fun z => by unfold exq at z; cases z
theorem exq_tup {a : Addr} {oe : Obj} {xs : List V} : exq a oe ≠ .tup xs := fun z => by unfold exq at z; cases z
section
variable {X : Cx} {k : Nat} {f a : Addr} {fd : FuncData} {ps : List Str} {sp : Sp} {oe : Obj} {pins : List (Addr × Obj)} {σ : L2.St} {H : Hp} {s : Shared} {Q : VK}
theorem run_lent (F : FnOk X.prog X.w X.K X.mg X.base CX0 k f fd ps sp) (hr : Room k X.A) (hb : Binds X.K fd ps []) (I : Inv X pins σ H s) (hp : (a, oe) ∈ X.pn ++ pins) (hB : X.base.get? a = none)
    (h : sp [.ref a] (upd H a (exq a oe)) (fun v H2 => H2 a = some (exq a oe) ∧ Q v (L2.del H2 a)) L2.E0) : wpAny (model X.prog X.w) X.A (call (.ref f) [.ref a]) (EP X pins σ Q) X.xe s := by
  obtain ⟨ha, hn, hnl, hnf, hnc⟩ := I.pin _ hp
  have ha : s.heap.get? a = some oe := ha
  have hn : H a = none := hn
  have ne : ∀ {b : Addr} {u : HO}, H b = some u → b ≠ a := fun {b u} e z => by rw [z, hn] at e; cases e
  have nfr : a ∉ frs X.stack := fun z => by
    rcases List.mem_cons.mp (I.stkSub _ z) with e | e
    · exact hnl e
    · exact hnf e
  have e0 := I.env0
  have hok : HOk X.prog X.w (upd H a (exq a oe)) s.heap := fun b o e => by
    by_cases hba : b = a
    · subst hba
      rw [upd_same] at e
      cases e
      exact ⟨ha, ⟨_, ha⟩, fun h1 h2 z k => k _ z⟩
    · rw [upd_ne hba] at e
      exact (I.hok b o e).stay (fun c v hc z => z) (fun c hc => by rw [upd_ne (ne hc)]; exact hc) fun c xs hc => by rw [upd_ne (ne hc)]; exact hc
  have e1 : Env0 X.prog X.w X.K X.mg X.base X.A X.stack s (upd H a (exq a oe)) :=
    ⟨e0.frames, e0.mod, fun b o e => ⟨(e0.bs b o e).1, by rw [upd_ne (fun z => by rw [z, hB] at e; cases e)]; exact (e0.bs b o e).2⟩, e0.bsz, e0.funs, fun b hb => by
      have hba : b ≠ a := fun z => nfr (by rw [← z]; exact hb)
      rw [upd_ne hba]; exact e0.frf b hb, hok, e0.bare⟩
  have hl : ([Value.ref a] ++ []).length = ps.length := F.len _ _ _ _ h
  refine wpAny_call (codeAny_mono (F.run X.A X.stack s _ ⟨[.ref a], []⟩ [.ref a] [.ref a] _ _ hr e1 (hb s [.ref a] I.kIn hl) (.cons rfl .nil) h) fun r s' hq => ?_)
  cases r with
  | error e => exact hq.elim
  | ok fl =>
    cases fl with
    | next => exact False.elim hq
    | brk => exact False.elim hq
    | cont => exact False.elim hq
    | ret u =>
      obtain ⟨v, H2, os, bare, un, hok2, rv, e2, q⟩ := hq
      have ga : s'.heap.get? a = some oe := exq_at hok2 e2
      have no : ∀ {c b : Addr}, H2 c = some (.own b) → c ≠ a := fun {c b} e z => by rw [z, e2] at e; exact exq_own (Option.some.inj e)
      have nt : ∀ {c : Addr} {xs : List V}, H2 c = some (.tup xs) → c ≠ a := fun {c xs} e z => by rw [z, e2] at e; exact exq_tup (Option.some.inj e)
      have U : Un (frs X.stack) [] H (L2.del H2 a) s.heap s'.heap := {
        keep := fun b o z n hf hx => by
          by_cases hba : b = a
          · subst hba; rw [ha] at z; cases z; exact ga
          · exact un.keep b o z (by rw [upd_ne hba]; exact n) hf hx
        slot := fun b o z n hf hx => by
          have hba : b ≠ a := fun y => nfr (by rw [← y]; exact hf)
          exact un.slot b o z (by rw [upd_ne hba]; exact n) hf hx
        free := fun b o z n hx => by
          by_cases hba : b = a
          · subst hba; exact del_same
          · rw [del_ne hba]; exact un.free b o z (by rw [upd_ne hba]; exact n) hx
        there := fun b o z hx => un.there b o z hx
        tups := fun b xs z => by rw [del_ne (ne z)]; exact un.tups b xs (by rw [upd_ne (ne z)]; exact z)
        frzs := fun b o v z => by rw [del_ne (ne z)]; exact un.frzs b o v (by rw [upd_ne (ne z)]; exact z)
        tbls := fun b ps z => by
          rw [del_ne (ne z)]; exact un.tbls b ps (by rw [upd_ne (ne z)]; exact z) }
      have hok3 : HOk X.prog X.w (L2.del H2 a) s'.heap := fun b o z => by
        have hba : b ≠ a := fun y => by rw [y, del_same] at z; cases z
        rw [del_ne hba] at z
        exact (hok2 b o z).stay (fun c v hc y => y) (fun c hc => by rw [del_ne (no hc)]; exact hc) fun c xs hc => by rw [del_ne (nt hc)]; exact hc
      obtain ⟨hh, g, d, t, os'⟩ := s'
      obtain rfl : os' = s.os := os
      exact ⟨v, _, I.call (h' := hh) (g' := g) (d' := d) (t' := t) (ch := []) U hok3 bare (fun b z => absurd z (by simp)), rv, q⟩
end
end Y

/-! Y23: try with several named clauses; what the suites do with the exception: its fields, a def called with it. -/
namespace Y
open PySem PySem.Spec PyProof.Rows L2
/-! ### several named clauses -/
def ends1 (i : Nat) (D : Ends) : Ends := { nx := fun σ' H' => D.nx (σ'.set i none) H', rt := D.rt, bk := fun σ' H' => D.bk (σ'.set i none) H', ct := fun σ' H' => D.ct (σ'.set i none) H' }
def wSel (K : PySem.W.Frag) (n0 i : Nat) (D : Ends) : List (Value × (Addr → Value → Option Addr → TS)) → WX
  | [] => fun _ _ _ _ => False
  | (c, ts) :: r => fun cls d σ H => ∃ b, PySem.W.exmOne K cls c = some b ∧ (b = true → ∀ a, H a = none → σ.length = n0 → ts a cls d (ends1 i D) (σ.set i (some (.ref a))) H) ∧ (b = false → wSel K n0 i D r cls d σ H)
inductive HdsA (X : Cx) (n : Str) : List ExceptHandler → List (Value × (Addr → Value → Option Addr → TS)) → Prop
  | nil : HdsA X n [] []
  | cons {x : Str} {c : Value} {ts : Addr → Value → Option Addr → TS} {b₀ : Stmt} {suite : List Stmt} {np pos' : Pos} {hds : List ExceptHandler} {l : List (Value × (Addr → Value → Option Addr → TS))} (hc : Names X x c)
      (hsu : ∀ (a : Addr) (oe : Obj) (cls : Value) (d : Option Addr) (pn : List (Addr × Obj)), Zc cls d oe → (∃ vs, oe.data = .fields vs) → X.base.get? a = none → PSs (X.suite a ((a, oe) :: pn)) (b₀ :: suite) (ts a cls d)) (r : HdsA X n hds l) :
      HdsA X n (.ExceptHandler (some (.Name x np)) (some n) (b₀ :: suite) pos' :: hds) ((c, ts) :: l)
section
variable {X : Cx} {n : Str} {i : Nat} {body : List Stmt} {h₀ : ExceptHandler} {hds : List ExceptHandler} {l : List (Value × (Addr → Value → Option Addr → TS))} {pos : Pos} {tb : WX → TS}
theorem ps_try_sel (hs : X.stack = X.env :: X.outer) (hf : X.env.frame = some X.env.locals) (hN : X.N.Nodup) (hi : X.N[i]? = some n) (hln : X.env.kindOf n = some .local)
    (hb : ∀ (W : WX) (pn : List (Addr × Obj)) (xe : Value → Shared → Prop), Takes (X.tr pn xe) W → PassesOwn (model X.prog X.w) X.A X.env xe → PSs (X.tr pn xe) body (tb W))
    (hh : HdsA X n (h₀ :: hds) l) : PS X (.Try body (h₀ :: hds) [] [] pos) (fun D σ H => tb (wSel X.K X.N.length i D l) D σ H) := by
  refine ⟨fun pins s σ H D I h => wpAny_Try_except ?_⟩
  have ok := I.ok
  have hfr : X.A.frames = some (X.env :: X.outer) := by rw [ok.frames, hs]
  refine wpAny_mono ((hb (wSel X.K X.N.length i D l) (X.pn ++ pins) (fun e s₁ => wpAny (model X.prog X.w) X.A (noteFrame e X.env) (fun _ s₂ => wpAny (model X.prog X.w) X.A (setFlight e none) (fun _ s₃ =>
    wpAny (model X.prog X.w) X.A (handleBy e X.env (h₀ :: hds)) (SP X pins D) X.xe s₃) X.xe s₂) X.xe s₁) (fun u s' xx => ?_) PassesOwn.looking).run [] s σ H D (I.toTry _) h) (fun f s1 hsp => ?_) (fun e s1 he => he)
  case refine_2 =>
    cases f with
    | next => obtain ⟨σ', H', J, q⟩ := hsp; exact wpAny_execs_nil ⟨σ', H', J.ofTry ok, q⟩
    | brk => obtain ⟨σ', H', J, q⟩ := hsp; exact ⟨σ', H', J.ofTry ok, q⟩
    | cont => obtain ⟨σ', H', J, q⟩ := hsp; exact ⟨σ', H', J.ofTry ok, q⟩
    | ret u => obtain ⟨v, σ', H', J, r, q⟩ := hsp; exact ⟨v, σ', H', J.ofTry ok, r, q⟩
  obtain ⟨a, B, sI, pins', σ', H', cls, d, rfl, J', nb, up, sky, na, os, ag, w⟩ := xx
  have J : Inv X pins σ' H' sI := J'.ofTry ok
  have sky1 : Sky B (X.env :: X.outer) a (Zc cls d) X.env.locals s'.heap := hs ▸ sky
  show wpAny (model X.prog X.w) X.A (noteFrame (.ref a) X.env) _ _ _
  refine Sky.land Zc.steady hfr hf sky1 fun h3 fl3 up3 => ?_
  have J3 : Inv X pins σ' H' { s' with heap := h3 } := J.landed nb fl3.1 (up.trans up3) os ag
  obtain ⟨oe3, vs3, he3, hz3, hd3⟩ := fl3.there
  have nfr : a ∉ frs (X.env :: X.outer) := fun hm => by
    obtain ⟨_, o', e', hnf⟩ := fl3.2.2.1.mem hm
    rw [he3] at e'; cases e'
    exact hnf _ hd3
  have nL : a ≠ X.env.locals := fun z => nfr (List.mem_filterMap.mpr ⟨X.env, List.mem_cons_self, by rw [hf, z]⟩)
  have nF : a ∉ X.fs := fun hm => by
    obtain ⟨e, he, q⟩ := List.mem_filterMap.mp hm
    exact nfr (List.mem_filterMap.mpr ⟨e, List.mem_cons_of_mem _ he, q⟩)
  have nB : X.base.get? a = none := by
    cases e : X.base.get? a with
    | none => rfl
    | some o =>
      have z := nb a o (J.bk a o e) (hs ▸ nfr)
      rw [fl3.2.1] at z; cases z
  have S3 := J3.suite he3 hd3 na nL nF
  have LT : PySem.W.Looks (model X.prog X.w) h3 (typeOf (.ref a)) cls := fun A Q E s k q => wpAny_typeOf_ref (k _ _ he3) (by rw [hz3.1]; exact q)
  have go : ∀ {hds' : List ExceptHandler} {l' : List (Value × (Addr → Value → Option Addr → TS))}, HdsA X n hds' l' → wSel X.K X.N.length i D l' cls d σ' H' →
      wpAny (model X.prog X.w) X.A (handleBy (.ref a) X.env hds') (SP X pins D) X.xe { s' with heap := h3 } := by
    intro hds' l' hk
    induction hk with
    | nil => intro w; exact w.elim
    | @cons x c ts b₀ suite np pos' hds2 l2 hc hsu r ih =>
      intro w
      obtain ⟨b, hb1, yes, no⟩ := w
      refine wpAny_handleBy_cons (codeAny_handlers_test ?_) (by intro q; cases q)
      have LM := PySem.W.exm_one (M := model X.prog X.w) (J3.kIn) LT hb1
      have named : ∀ {Q : Value → Shared → Prop} {E : Value → Shared → Prop}, Q c { s' with heap := h3 } → wpAny (model X.prog X.w) (X.A.mark (some (.ref a))) (eval (.Name x np) X.env) Q E { s' with heap := h3 } := fun {Q E} q => by
        obtain ⟨hg, hdbg, hm | ⟨hm, hv, hnn⟩⟩ := hc
        · exact ld_glob (X := X.suite a ((a, oe3) :: (X.pn ++ pins))) S3 hg hm q hdbg
        · exact ld_blt (X := X.suite a ((a, oe3) :: (X.pn ++ pins))) S3 hg hm hv q hnn hdbg
      refine named (LM.here ?_)
      cases b with
      | false =>
        show wpAny _ X.A (handleBy (.ref a) X.env hds2) _ _ _
        exact ih (no rfl)
      | true =>
        refine codeAny_handlers_suite_as ?_
        refine HandSPX.lands_againZ fl3 fun h4 fl4 up4 => ?_
        have J4 : Inv X pins σ' H' { s' with heap := h4 } := J.landed nb fl4.1 ((up.trans up3).trans up4) os ag
        obtain ⟨oe4, vs4, he4, hz4, hd4⟩ := fl4.there
        refine store_ok (X := X.suite a ((a, oe4) :: (X.pn ++ pins))) (v := .ref a) (J4.suite he4 hd4 na nL nF) hN hi (.inl hln) rfl (fun s5 S5 => ?_) (.inr hln)
        refine wpAny_mono ((hsu a oe4 cls d (X.pn ++ pins) hz4 ⟨_, hd4⟩ nB).run [] s5 _ H' _ S5 (yes rfl a na J.len)) (fun f s6 hsp => ?_) (fun _ _ z => False.elim z)
        have gone : ∀ {σ6 : L2.St} {H6 : Hp} {Q : Shared → Prop}, Inv (X.suite a ((a, oe4) :: (X.pn ++ pins))) [] σ6 H6 s6 → (∀ s7, Inv X pins (σ6.set i none) H6 s7 → Q s7) →
            wpAny (model X.prog X.w) X.A (do bindName X.env n .none; unbindBehindTheSuite X.env n pos') (fun _ s7 => Q s7) X.xe s6 := fun S6 hq => gone_ok (S6.unsuite ok) hN hi hln hq
        cases f with
        | next => obtain ⟨σ6, H6, S6, q⟩ := hsp; exact gone S6 fun s7 J7 => ⟨_, _, J7, q⟩
        | brk => obtain ⟨σ6, H6, S6, q⟩ := hsp; exact gone S6 fun s7 J7 => ⟨_, _, J7, q⟩
        | cont => obtain ⟨σ6, H6, S6, q⟩ := hsp; exact gone S6 fun s7 J7 => ⟨_, _, J7, q⟩
        | ret u => obtain ⟨v6, σ6, H6, S6, r, q⟩ := hsp; exact gone S6 fun s7 J7 => ⟨_, _, _, J7, r, q⟩
  exact go hh w
end

/-! ### a def called with the exception in hand: its body knows the object -/
section
variable {X : Cx} {k : Nat} {f a : Addr} {fd : FuncData} {oe : Obj} {pins : List (Addr × Obj)} {σ : L2.St} {H : Hp} {s : Shared} {Q : VK} {N : List Str} {pn x qual : Str} {params : Arguments} {body : List Stmt} {scope : Scope} {t : TS}
theorem run_pin (F : FunD X.K x qual params body scope [] [] f fd) (S : FnScope N [pn] scope) (hb : Binds X.K fd [pn] []) (hr : L2H.RoomH (k + 1) X.A) (I : Inv X pins σ H s) (hp : (a, oe) ∈ X.pn ++ pins)
    (hbody : ∀ (cd : Value) (A : Around) (outer : List Env) (s : Shared) (H : Hp), L2H.RoomH k (A.deeper (envOfC qual scope s.heap.objs.size f cd)) → PSs (L2H.cxH CX0 X.prog X.w X.K X.mg X.base N qual scope f cd A outer s H L2.E0 (a, oe)) body t)
    (h : t { nx := fun _ H' => Q .non H', rt := Q } (L2.start N [.ref a]) H) : wpAny (model X.prog X.w) X.A (call (.ref f) [.ref a]) (EP X pins σ Q) X.xe s := by
  obtain ⟨oc, od, dV, kV, doc, pm, an, cdv, ct, osl, rfl, lk, hcd, _, _⟩ := F.ex
  have P1 := I.pin (a, oe) hp
  have hpin : L2H.PinOk X.stack H s (a, oe) := ⟨P1.1, P1.2.1, fun hm => (List.mem_cons.mp (I.stkSub a hm)).elim P1.2.2.1 P1.2.2.2.1, P1.2.2.2.2⟩
  have e0 := I.env0
  have KX : X.K.In s.heap := e0.mod.kin.keeps fun b o e => (e0.bs b o e).1
  have lim : s.heap.NoLimit := e0.mod.nolimit.keeps fun b o e => (e0.bs b o e).1
  have b := hb s [.ref a] I.kIn rfl
  rw [List.append_nil] at b
  have hkind : ∀ y ∈ [pn].zip [Value.ref a], scope.names.lookup y.1 = some .local ∨ (scope.names.lookup y.1 = some .cell ∧ ((cellsFrom (s.heap.objs.size + 1) scope.names []).lookup y.1).isSome = true) := fun ⟨n, v⟩ hy => by
    rcases S.par n (List.of_mem_zip hy).1 with q | q
    · exact .inl q
    · exact .inr ⟨q, PySem.W.cellsFrom_some _ _ _ (.inl q)⟩
  have rc : codeAny (model X.prog X.w) X.A (.call (.ref f) ⟨[.ref a], []⟩) (CR CX0 X.stack X.prog X.w H s Q L2.E0) s := by
    refine codeAny_call_function hr.depth (KX _ _ lk) rfl S.co S.gen rfl (PySem.W.codeRec_of KX hcd) (b _ _ _ _ ?_)
    refine wpAny_newFunctionEnv_cells S.kind hkind fun env he s1 x => ?_
    subst he
    refine ⟨lim.keeps x.toInCall.keep, codeAny_func ?_⟩
    have J : Inv (L2H.cxH CX0 X.prog X.w X.K X.mg X.base N qual scope f cdv X.A X.stack s H L2.E0 (a, oe)) [] (L2.start N [.ref a]) H s1 := L2H.inv_startH (vs := [.ref a]) S hpin e0 rfl (.cons rfl .nil) x
    refine wpAny_mono ((hbody cdv X.A X.stack s H (hr.deeper _)).run [] s1 (L2.start N [.ref a]) H _ J h) (fun fl s' hs => ?_) fun e s' hs => hs
    have fin : ∀ {σ' : L2.St} {H' : Hp} {v : V} {u : Value}, Inv (L2H.cxH CX0 X.prog X.w X.K X.mg X.base N qual scope f cdv X.A X.stack s H L2.E0 (a, oe)) [] σ' H' s' → RelV v u → Q v H' → CE X.stack X.prog X.w H s Q u s' :=
      fun {σ' H' v u} J rv q => ⟨v, H', J.os, J.bare, J.base, J.hok, rv, q⟩
    cases fl with
    | ret u =>
      obtain ⟨v, σ', H', J, rv, q⟩ := hs
      exact fin J rv q
    | next =>
      obtain ⟨σ', H', J, q⟩ := hs
      exact fin (v := V.non) (u := Value.none) J rfl q
    | brk =>
      obtain ⟨_, _, _, q⟩ := hs
      exact False.elim q
    | cont =>
      obtain ⟨_, _, _, q⟩ := hs
      exact False.elim q
  refine wpAny_call (codeAny_mono rc fun r s' hq => ?_)
  cases r with
  | error e => exact hq.elim
  | ok fl =>
    cases fl with
    | ret u => exact I.after hq
    | next => exact False.elim hq
    | brk => exact False.elim hq
    | cont => exact False.elim hq
end

/-! ### the body of such a def: fields of the exception by its tag -/
def tPin (K : PySem.W.Frag) (a : Addr) (cls : Value) (d : Option Addr) (n : Str) (te : TE) : TE := fun σ H Q => te σ H fun x H1 => ∃ (C dd : Addr) (fs : List (Str × V)) (v : V), x = .ref a ∧ cls = .ref C ∧ d = some dd ∧ XfC K C ∧ PySem.W.findIn K (.ref C) n = some none ∧ H1 dd = some (.xd fs) ∧ fs.lookup n = some v ∧ Q v H1
section
variable {X : Cx} {a : Addr} {oe : Obj} {cls : Value} {d : Option Addr}
theorem pe_pin {e : Expr} {te : TE} {pos : Pos} {n : Str} (hp : (a, oe) ∈ X.pn) (hz : Zc cls d oe) (hf : ∃ vs, oe.data = .fields vs) (he : PE X e te) (hb : attributeBase e n X.env (eval e X.env) = eval e X.env) :
    PE X (.Attribute e n pos) (tPin X.K a cls d n te) := by
  refine ⟨fun pins s σ H Q I h => ?_⟩
  refine attr_of hb (thn (he.run pins s σ H _ I h) fun u s1 hh => ?_)
  obtain ⟨x, H1, I1, rx, C, dd, fs, v, ex, ec, ed, T, hno, ea, l, q⟩ := hh
  subst ex
  obtain rfl : u = Value.ref a := rx
  subst ec
  subst ed
  obtain ⟨ha, _⟩ := I1.pin (a, oe) (List.mem_append_left _ hp)
  obtain ⟨vs, hd⟩ := hf
  have hx : ObjOk X.prog X.w H1 s1.heap dd (.xd fs) := I1.hok dd _ ea
  obtain ⟨mA, hns, hr⟩ := hx
  obtain ⟨od, ho, hl⟩ := lookIn_ns hns
  obtain ⟨u, hu, ru⟩ := RelO.some_of (v := v) (o := mA n) (by rw [← l]; exact hr n)
  have J : PySem.W.InstAt s1.heap a oe C (some od) := ⟨ha, hz.1, by unfold PySem.W.notCls; rw [hd] <;> rfl, by rw [hz.2]; exact ho⟩
  exact HandSPX.exc_get I1.kIn J T.ga T.gg T.exC (PySem.W.findObj_own T.hdC hno rfl (by rw [hl, hu])) (handed_of ru) ⟨v, H1, I1.tok _, ru, q⟩
/-- r: the name of the field that is handed back, by the tag -/
def tFld (K : PySem.W.Frag) (a : Addr) (cls : Value) (d : Option Addr) (r : Str → Option Str) : TS := fun D σ H => σ[0]? = some (some (.ref a)) ∧ ∃ (C dd : Addr) (fs : List (Str × V)) (T : Str) (v : V), cls = .ref C ∧ d = some dd ∧ XfC K C ∧ PySem.W.findIn K (.ref C) ("tag" : Str) = some none ∧ H dd = some (.xd fs) ∧
  fs.lookup ("tag" : Str) = some (.str T) ∧ (match r T with | none => v = .non | some f => PySem.W.findIn K (.ref C) f = some none ∧ fs.lookup f = some v) ∧ ∀ H', (∀ b o, H b = some o → H' b = some o) → D.rt v H'
theorem pss_str {b : List Stmt} {t t' : TS} (h : PSs X b t) (q : ∀ D σ H, t' D σ H → t D σ H) : PSs X b t' := ⟨fun pins s σ H D I z => h.run pins s σ H D I (q D σ H z)⟩
inductive CStr : List Expr → List Str → Prop
  | nil : CStr [] []
  | cons {z : Str} {j : Nat} {p : Pos} {es : List Expr} {ls : List Str} (r : CStr es ls) : CStr (.Constant (.str z) j p :: es) (z :: ls)
theorem pa_cstr {es : List Expr} {ls : List Str} (c : CStr es ls) : PA X es (fun _ H Q => Q (ls.map V.str) H) := by
  induction c with
  | nil => exact pa_nil
  | cons r ih => exact pa_cons pe_str ih rfl
theorem inV_strs (T : Str) (ls : List Str) : L2.inV (.str T) (ls.map V.str) = ls.any fun z => z == T := by
  unfold L2.inV
  induction ls with
  | nil => rfl
  | cons z ls ih => rw [List.map_cons, List.any_cons, List.any_cons, ih]; rfl
theorem fld_ext {H H1 : Hp} (e : ∀ b o, H b = some o → H1 b = some o) {K : PySem.W.Frag} {r r' : Str → Option Str} {D : Ends} {σ : L2.St} (h : tFld K a cls d r D σ H)
    (hr : ∀ T, (∃ (C dd : Addr) (fs : List (Str × V)), cls = .ref C ∧ d = some dd ∧ H dd = some (.xd fs) ∧ fs.lookup ("tag" : Str) = some (.str T)) → r T = r' T) : tFld K a cls d r' D σ H1 := by
  obtain ⟨h1, C, dd, fs, T, v, h2, h3, h4, h5, h6, h7, h8, h9⟩ := h
  refine ⟨h1, C, dd, fs, T, v, h2, h3, h4, h5, e _ _ h6, h7, ?_, fun H' e' => h9 H' fun b o z => e' b o (e b o z)⟩
  rw [← hr T ⟨C, dd, fs, h2, h3, h6, h7⟩]; exact h8
theorem fb_in {es : List Expr} {ls : List Str} {en f : Str} {rest : List Stmt} {r : Str → Option Str} {p1 p2 p3 p4 p5 p6 p7 p8 : Pos} (hp : (a, oe) ∈ X.pn) (hz : Zc cls d oe) (hf : ∃ vs, oe.data = .fields vs) (hN : X.N[0]? = some en) (hv : Vis X.env.scope en)
    (hd : (en == ("__debug__" : Str)) = false) (hcd : (en == ("__classdict__" : Str)) = false) (hb : ∀ p n, attributeBase (.Name en p) n X.env (eval (.Name en p) X.env) = eval (.Name en p) X.env) (ces : CStr es ls) (h : PSs X rest (tFld X.K a cls d r)) (hl : ls.length ≤ 1000 := by decide) :
    PSs X (.If (.Compare (.Attribute (.Name en p1) "tag" p2) [.In] [.List es p3] p4) [.Return (some (.Attribute (.Name en p5) f p6)) p7] [] p8 :: rest) (tFld X.K a cls d fun T => if (ls.any fun z => z == T) = true then some f else r T) := by
  have hv1 : ∀ p, PE X (.Name en p) (tVar 0) := fun p => pe_var hN hv hd hcd
  refine pss_str (pss_cons (ps_if (pt_cmpR op_in_seq (pe_pin hp hz hf (hv1 p1) (hb _ _)) (pe_lst (pa_cstr ces)) rfl) (pss_one (ps_ret (pe_pin hp hz hf (hv1 p5) (hb _ _)))) pss_nil) h) fun D σ H h => ?_
  obtain ⟨h1, C, dd, fs, T, v, h2, h3, h4, h5, h6, h7, h8, h9⟩ := h
  refine ⟨.ref a, h1, C, dd, fs, .str T, rfl, h2, h3, h4, h5, h6, h7, ?_⟩
  refine ⟨by rw [List.length_map, sizeLine_eq]; omega, fun p hn => ⟨p, ls.map V.str, rfl, .inl (.inl (.inl upd_same)), rfl, by simp [flatV], _, rfl, ?_⟩⟩
  have ex : ∀ b o, H b = some o → upd H p (.lst (ls.map V.str)) b = some o := fun b o e => by rw [upd_ne (ne_of_none e hn)]; exact e
  rw [inV_strs]
  rw [show (if false = true then !(ls.any fun z => z == T) else ls.any fun z => z == T) = ls.any fun z => z == T from rfl]
  cases hc : ls.any fun z => z == T with
  | true =>
    dsimp only
    rw [if_pos rfl]
    have h8 : (match (if (ls.any fun z => z == T) = true then some f else r T) with | none => v = .non | some f => PySem.W.findIn X.K (.ref C) f = some none ∧ fs.lookup f = some v) := h8
    rw [hc, if_pos rfl] at h8
    exact ⟨.ref a, h1, C, dd, fs, v, rfl, h2, h3, h4, h8.1, ex _ _ h6, h8.2, h9 _ ex⟩
  | false =>
    dsimp only
    rw [if_neg Bool.false_ne_true]
    refine fld_ext ex (r := fun T => if (ls.any fun z => z == T) = true then some f else r T) ⟨h1, C, dd, fs, T, v, h2, h3, h4, h5, h6, h7, h8, h9⟩ fun T' ⟨C', dd', fs', k1, k2, k3, k4⟩ => ?_
    rw [h3] at k2; cases k2
    rw [h6] at k3; cases k3
    rw [h7] at k4; cases k4
    show (if (ls.any fun z => z == T) = true then some f else r T) = r T
    rw [hc]; rfl
theorem dec_str (T z : Str) : decide (V.str T = V.str z) = (z == T) := by
  by_cases h : z = T
  · subst h; simp
  · rw [beq_eq_false_iff_ne.mpr h]; exact decide_eq_false fun e => h (V.str.inj e).symm
theorem fb_eq {z en f : Str} {j : Nat} {rest : List Stmt} {r : Str → Option Str} {p1 p2 p3 p4 p5 p6 p7 p8 : Pos} (hp : (a, oe) ∈ X.pn) (hz : Zc cls d oe) (hf : ∃ vs, oe.data = .fields vs) (hN : X.N[0]? = some en) (hv : Vis X.env.scope en)
    (hd : (en == ("__debug__" : Str)) = false) (hcd : (en == ("__classdict__" : Str)) = false) (hb : ∀ p n, attributeBase (.Name en p) n X.env (eval (.Name en p) X.env) = eval (.Name en p) X.env) (h : PSs X rest (tFld X.K a cls d r)) :
    PSs X (.If (.Compare (.Attribute (.Name en p1) "tag" p2) [.Eq] [.Constant (.str z) j p3] p4) [.Return (some (.Attribute (.Name en p5) f p6)) p7] [] p8 :: rest) (tFld X.K a cls d fun T => if (z == T) = true then some f else r T) := by
  have hv1 : ∀ p, PE X (.Name en p) (tVar 0) := fun p => pe_var hN hv hd hcd
  refine pss_str (pss_cons (ps_if (pt_cmpR op_eq (pe_pin hp hz hf (hv1 p1) (hb _ _)) pe_str rfl) (pss_one (ps_ret (pe_pin hp hz hf (hv1 p5) (hb _ _)))) pss_nil) h) fun D σ H h => ?_
  obtain ⟨h1, C, dd, fs, T, v, h2, h3, h4, h5, h6, h7, h8, h9⟩ := h
  refine ⟨.ref a, h1, C, dd, fs, .str T, rfl, h2, h3, h4, h5, h6, h7, rfl, _, rfl, ?_⟩
  rw [dec_str]
  have h8 : (match (if (z == T) = true then some f else r T) with | none => v = .non | some f => PySem.W.findIn X.K (.ref C) f = some none ∧ fs.lookup f = some v) := h8
  cases hc : z == T with
  | true =>
    dsimp only
    rw [if_pos rfl]
    rw [hc, if_pos rfl] at h8
    exact ⟨.ref a, h1, C, dd, fs, v, rfl, h2, h3, h4, h8.1, h6, h8.2, h9 _ fun _ _ e => e⟩
  | false =>
    dsimp only
    rw [if_neg Bool.false_ne_true]
    rw [hc, if_neg Bool.false_ne_true] at h8
    exact ⟨h1, C, dd, fs, T, v, h2, h3, h4, h5, h6, h7, h8, h9⟩
theorem fb_end {z en f : Str} {j j2 : Nat} {p1 p2 p3 p4 p5 p6 p7 p8 p9 : Pos} (hp : (a, oe) ∈ X.pn) (hz : Zc cls d oe) (hf : ∃ vs, oe.data = .fields vs) (hN : X.N[0]? = some en) (hv : Vis X.env.scope en)
    (hd : (en == ("__debug__" : Str)) = false) (hcd : (en == ("__classdict__" : Str)) = false) (hb : ∀ p n, attributeBase (.Name en p) n X.env (eval (.Name en p) X.env) = eval (.Name en p) X.env) :
    PSs X [.Return (some (.IfExp (.Compare (.Attribute (.Name en p1) "tag" p2) [.Eq] [.Constant (.str z) j p3] p4) (.Attribute (.Name en p5) f p6) (.Constant .none j2 p7) p8)) p9] (tFld X.K a cls d fun T => if (z == T) = true then some f else none) := by
  have hv1 : ∀ p, PE X (.Name en p) (tVar 0) := fun p => pe_var hN hv hd hcd
  refine pss_str (pss_one (ps_ret (pe_ifExp (pt_cmpR op_eq (pe_pin hp hz hf (hv1 p1) (hb _ _)) pe_str rfl) (pe_pin hp hz hf (hv1 p5) (hb _ _)) pe_non))) fun D σ H h => ?_
  obtain ⟨h1, C, dd, fs, T, v, h2, h3, h4, h5, h6, h7, h8, h9⟩ := h
  refine ⟨.ref a, h1, C, dd, fs, .str T, rfl, h2, h3, h4, h5, h6, h7, rfl, _, rfl, ?_⟩
  rw [dec_str]
  have h8 : (match (if (z == T) = true then some f else none) with | none => v = .non | some f => PySem.W.findIn X.K (.ref C) f = some none ∧ fs.lookup f = some v) := h8
  cases hc : z == T with
  | true =>
    dsimp only
    rw [if_pos rfl]
    rw [hc, if_pos rfl] at h8
    exact ⟨.ref a, h1, C, dd, fs, v, rfl, h2, h3, h4, h8.1, h6, h8.2, h9 _ fun _ _ e => e⟩
  | false =>
    dsimp only
    rw [if_neg Bool.false_ne_true]
    rw [hc, if_neg Bool.false_ne_true] at h8
    have h8 : v = .non := h8
    subst h8
    exact h9 _ fun _ _ e => e
end
end Y

/-! Y24: f(lambda: e), f a def that tries what it is handed and tells value or error. -/
namespace Y
open PySem PySem.Spec PyProof.Rows L2
open LamX (GivesTo CodeO LamS lamCx lamEnv TabB Tabs ExtN tLam)
/-! ### the suites' parts -/
section
variable {X : Cx} {k i : Nat} {f a : Addr} {fd : FuncData} {oe : Obj} {N : List Str} {pn x qual fx en : Str} {params : Arguments} {body : List Stmt} {scope : Scope} {t : TS} {p q pos : Pos}
theorem pe_pincall (F : FunD X.K x qual params body scope [] [] f fd) (S : FnScope N [pn] scope) (hb : L2.Binds X.K fd [pn] []) (hr : L2H.RoomH (k + 1) X.A) (hp : (a, oe) ∈ X.pn) (hg : Gl X fx) (hm : X.mg fx = some (.ref f)) (hdb : (fx == ("__debug__" : Str)) = false)
    (hN : X.N[i]? = some en) (hv : Vis X.env.scope en) (hd : (en == ("__debug__" : Str)) = false) (hcd : (en == ("__classdict__" : Str)) = false)
    (hbody : ∀ (cd : Value) (A : Around) (outer : List Env) (s : Shared) (H : Hp), L2H.RoomH k (A.deeper (envOfC qual scope s.heap.objs.size f cd)) → PSs (L2H.cxH CX0 X.prog X.w X.K X.mg X.base N qual scope f cd A outer s H L2.E0 (a, oe)) body t) :
    PE X (.Call (.Name fx q) [.Name en p] [] pos) (fun σ H Q => σ[i]? = some (some (.ref a)) ∧ t { nx := fun _ H' => Q .non H', rt := Q } (L2.start N [.ref a]) H) := by
  refine ⟨fun pins s σ H Q I h => ?_⟩
  obtain ⟨h1, h2⟩ := h
  refine wpAny_Call_Name_kw (ld_glob I hg hm ?_ hdb)
  refine PySem.W.callWith_K (h₀ := X.base) I.ok.mod.kin F.kp (thn ((pa_cons (pe_var hN hv hd hcd) pa_nil rfl).run pos pins s σ H (fun vs H1 => vs = [.ref a] ∧ H1 = H) I ⟨.ref a, h1, rfl, rfl⟩) fun us s1 ⟨vs, H1, I1, r, q1, q2⟩ => ⟨I1.kIn, ?_⟩) rfl rfl
  subst q1
  subst q2
  obtain rfl : us = [.ref a] := by
    cases r with
    | cons r1 r2 =>
      cases r2
      have r1 : _ = Value.ref a := r1
      rw [r1]
  exact run_pin F S hb hr I1 (List.mem_append_left _ hp) hbody h2
end

/-! ### the def: try: return ("value", ask()); except SayError, Missing: (tag, field); except NothingLeft: (tag, None) -/
def fieldN (T : Str) : Option Str := if ((["InvalidNode", "InvalidWay", "NotOfWay", "InvalidRounds", "InvalidSheets", "NotAnswered"] : List Str).any fun z => z == T) = true then some "given"
  else if ((["InvalidArc", "InvalidRules"] : List Str).any fun z => z == T) = true then some "index"
  else if ((["InvalidName", "DuplicateName", "UnknownName", "WrongKind"] : List Str).any fun z => z == T) = true then some "name"
  else if ((["CapacityExceeded", "InvalidLimit"] : List Str).any fun z => z == T) = true then some "limit"
  else if ((["TooMany", "TooWide", "TooLong"] : List Str).any fun z => z == T) = true then some "most"
  else if ((("InvalidCommand" : Str)) == T) = true then some "word"
  else if ((("ParseError" : Str)) == T) = true then some "line" else none
def EchT (K : PySem.W.Frag) (CS CM CN : Addr) (Q : VK) : XK := fun cls d H' => ∃ (C dd : Addr) (fs : List (Str × V)) (T : Str) (v : V), cls = .ref C ∧ d = some dd ∧ XfC K C ∧ PySem.W.findIn K (.ref C) ("tag" : Str) = some none ∧ H' dd = some (.xd fs) ∧ fs.lookup ("tag" : Str) = some (.str T) ∧
  (((PySem.W.exmOne K cls (.ref CS) = some true ∨ (PySem.W.exmOne K cls (.ref CS) = some false ∧ PySem.W.exmOne K cls (.ref CM) = some true)) ∧ (match fieldN T with | none => v = .non | some f => PySem.W.findIn K (.ref C) f = some none ∧ fs.lookup f = some v)) ∨
    (PySem.W.exmOne K cls (.ref CS) = some false ∧ PySem.W.exmOne K cls (.ref CM) = some false ∧ PySem.W.exmOne K cls (.ref CN) = some true ∧ v = .non)) ∧
  ∀ H2, (∀ b o, H' b = some o → H2 b = some o) → ∀ p, H2 p = none → Q (.ref p) (upd H2 p (.tup [.str T, v]))
def TTry (K : PySem.W.Frag) (CS CM CN : Addr) : (XK → Hp → VK → Prop) → Hp → VK → Prop := fun tl H Q => tl (EchT K CS CM CN Q) H fun v H' => ([V.str "value", v] : List V).length ≤ sizeLine ∧ ∀ p, H' p = none → Q (.ref p) (upd H' p (.tup [.str "value", v]))
section
variable {X : Cx} {q : Str} {Ng Nf : List Str} {ask en fn : Str} {sg sf : Scope} {g ff CS CM CN : Addr} {cdg : Value} {pf : Arguments} {bf : List Stmt} {fdf : FuncData}
theorem try_gives {j1 j2 : Nat} {x1 x2 x3 x4 : _} {p1 p2 p3 p4 q1 q2 q3 q4 q5 q6 q7 q8 q9 r1 r2 r3 r4 r5 r6 r7 r8 r9 s1 s2 s3 s4 s5 s6 s7 t1 t2 : Pos} (hN0 : Ng[0]? = some ask) (hN1 : Ng[1]? = some en) (nd : Ng.Nodup) (hst : ∀ f : Addr, L2.start Ng [V.ref f] = [some (V.ref f), none]) (hln : sg.names.lookup en = some .local)
    (gS : sg.names.lookup ("SayError" : Str) = some .globalImplicit) (gM : sg.names.lookup ("Missing" : Str) = some .globalImplicit) (gN : sg.names.lookup ("NothingLeft" : Str) = some .globalImplicit) (gF : sg.names.lookup ("_law_field" : Str) = some .globalImplicit)
    (mS : X.mg "SayError" = some (.ref CS)) (mM : X.mg "Missing" = some (.ref CM)) (mN : X.mg "NothingLeft" = some (.ref CN)) (mF : X.mg "_law_field" = some (.ref ff)) (de : (en == ("__debug__" : Str)) = false) (dc : (en == ("__classdict__" : Str)) = false)
    (Ff : FunD X.K "_law_field" "_law_field" pf bf sf [] [] ff fdf) (Sf : FnScope Nf [fn] sf) (Bf : L2.Binds X.K fdf [fn] []) (hsf : ∀ a : Addr, (L2.start Nf [V.ref a])[0]? = some (some (V.ref a)))
    (hbf : ∀ (a : Addr) (oe : Obj) (cls : Value) (d : Option Addr), Zc cls d oe → (∃ vs, oe.data = .fields vs) → ∀ (cd : Value) (A : Around) (outer : List Env) (s : Shared) (H : Hp), PSs (L2H.cxH CX0 X.prog X.w X.K X.mg X.base Nf "_law_field" sf ff cd A outer s H L2.E0 (a, oe)) bf (tFld X.K a cls d fieldN))
    (hr : Room 2 X.A) :
    GivesTo X Ng "_law_try" sg g cdg [.Try [.Return (some (.Tuple [.Constant (.str "value") j1 p1, .Call (.Name ask p2) [] [] p3] x1 p4)) q1]
      [.ExceptHandler (some (.Name "SayError" q2)) (some en) [.Return (some (.Tuple [.Attribute (.Name en q3) "tag" q4, .Call (.Name "_law_field" q5) [.Name en q6] [] q7] x2 q8)) q9] r1,
       .ExceptHandler (some (.Name "Missing" r2)) (some en) [.Return (some (.Tuple [.Attribute (.Name en r3) "tag" r4, .Call (.Name "_law_field" r5) [.Name en r6] [] r7] x3 r8)) r9] s1,
       .ExceptHandler (some (.Name "NothingLeft" s2)) (some en) [.Return (some (.Tuple [.Attribute (.Name en s3) "tag" s4, .Constant .none j2 s5] x4 s6)) s7] t1] [] [] t2] ask q (TTry X.K CS CM CN) := by
  intro f c' s H Q tl act hc h
  generalize hZ : (cxOf C8.CX0 X.prog X.w X.K X.mg X.base Ng "_law_try" sg g cdg X.A X.stack s H C8.E0).nox = Z
  have hZK : Z.K = X.K := by subst hZ; rfl
  have hrZ : L2H.RoomH 1 Z.A := by rw [← hZ]; exact L2H.roomH_of (hr.deeper _)
  have attr : ∀ (a : Addr) (pn : List (Addr × Obj)) (p : Pos) (n : Str), attributeBase (.Name en p) n (Z.suite a pn).env (eval (.Name en p) (Z.suite a pn).env) = eval (.Name en p) (Z.suite a pn).env := fun a pn p n => by rw [← hZ]; rfl
  have zN : Z.N[1]? = some en := by rw [← hZ]; exact hN1
  have zv : Vis Z.env.scope en := by rw [← hZ]; exact .inl hln
  have main : ∀ (a : Addr) (oe : Obj) (cls : Value) (d : Option Addr) (pn : List (Addr × Obj)) {u1 u2 u3 u4 u5 u6 u7 : Pos} {xx : _}, Zc cls d oe → (∃ vs, oe.data = .fields vs) →
      PSs (Z.suite a ((a, oe) :: pn)) [.Return (some (.Tuple [.Attribute (.Name en u1) "tag" u2, .Call (.Name "_law_field" u3) [.Name en u4] [] u5] xx u6)) u7]
        (tRet (tTup (tCons (tPin X.K a cls d "tag" (tVar 1)) (tCons (fun σ H Q => σ[1]? = some (some (.ref a)) ∧ tFld X.K a cls d fieldN { nx := fun _ H' => Q .non H', rt := Q } (L2.start Nf [.ref a]) H) tNil)))) := by
    intro a oe cls d pn u1 u2 u3 u4 u5 u6 u7 xx hz hf
    have e1 := pe_pin (X := Z.suite a ((a, oe) :: pn)) (pos := u2) (n := "tag") List.mem_cons_self hz hf (pe_var (pos := u1) zN zv de dc) (attr a _ _ _)
    have e2 : PE (Z.suite a ((a, oe) :: pn)) (.Call (.Name "_law_field" u3) [.Name en u4] [] u5) (fun σ H Q => σ[1]? = some (some (.ref a)) ∧ tFld X.K a cls d fieldN { nx := fun _ H' => Q .non H', rt := Q } (L2.start Nf [.ref a]) H) := by
      subst hZ
      exact pe_pincall (k := 0) (i := 1) Ff Sf Bf ⟨hrZ.dp, hrZ.un⟩ List.mem_cons_self gF mF (by decide) zN zv de dc fun cd A outer s H _ => hbf a oe cls d hz hf cd A outer s H
    have e1 : PE (Z.suite a ((a, oe) :: pn)) (.Attribute (.Name en u1) "tag" u2) (tPin X.K a cls d "tag" (tVar 1)) := by rw [← hZK]; exact e1
    exact pss_one (ps_ret (pe_tup (pa_cons e1 (pa_cons e2 pa_nil rfl) rfl)))
  have last : ∀ (a : Addr) (oe : Obj) (cls : Value) (d : Option Addr) (pn : List (Addr × Obj)), Zc cls d oe → (∃ vs, oe.data = .fields vs) →
      PSs (Z.suite a ((a, oe) :: pn)) [.Return (some (.Tuple [.Attribute (.Name en s3) "tag" s4, .Constant .none j2 s5] x4 s6)) s7]
        (tRet (tTup (tCons (tPin X.K a cls d "tag" (tVar 1)) (tCons (tC .non) tNil)))) := by
    intro a oe cls d pn hz hf
    have e1 := pe_pin (X := Z.suite a ((a, oe) :: pn)) (pos := s4) (n := "tag") List.mem_cons_self hz hf (pe_var (pos := s3) zN zv de dc) (attr a _ _ _)
    rw [← hZK]
    exact pss_one (ps_ret (pe_tup (pa_cons e1 (pa_cons pe_non pa_nil rfl) rfl)))
  have nmS : Names Z "SayError" (.ref CS) := by rw [← hZ]; exact ⟨gS, by decide, .inl mS⟩
  have nmM : Names Z "Missing" (.ref CM) := by rw [← hZ]; exact ⟨gM, by decide, .inl mM⟩
  have nmN : Names Z "NothingLeft" (.ref CN) := by rw [← hZ]; exact ⟨gN, by decide, .inl mN⟩
  have hs : Z.stack = Z.env :: Z.outer := by subst hZ; rfl
  have hfr : Z.env.frame = some Z.env.locals := by rw [← hZ]; rfl
  have hnd : Z.N.Nodup := by rw [← hZ]; exact nd
  have hk : Z.env.kindOf en = some .local := by rw [← hZ]; exact hln
  refine ⟨_, pss_one (ps_try_sel (X := Z) (i := 1) (n := en)
    (tb := fun W D σ H => ∃ Ech : XK, (∀ cls d σ' H', Ech cls d H' → W cls d σ' H') ∧ σ[0]? = some (some (.ref f)) ∧ H c' = some (CodeO c' q) ∧ tl Ech H (fun v H' => ([V.str "value", v] : List V).length ≤ sizeLine ∧ ∀ p, H' p = none → D.rt (.ref p) (upd H' p (.tup [.str "value", v]))))
    hs hfr hnd zN hk (fun W pn xe tk _ => ?_)
    (.cons nmS (fun a oe cls d pn hz hf _ => main a oe cls d pn hz hf) (.cons nmM (fun a oe cls d pn hz hf _ => main a oe cls d pn hz hf) (.cons nmN (fun a oe cls d pn hz hf _ => last a oe cls d pn hz hf) .nil)))), ?_⟩
  · refine ⟨fun pins s' σ H' D I h' => ?_⟩
    obtain ⟨Ech, hW, h1, h2, h3⟩ := h'
    have tk2 : Takes ((cxOf C8.CX0 X.prog X.w X.K X.mg X.base Ng "_law_try" sg g cdg X.A X.stack s H C8.E0).tr pn xe) W := by subst hZ; exact tk
    have hp := act W pn xe Ech p2 p3 tk2 hW
    have hp2 : PE (Z.tr pn xe) (.Call (.Name ask p2) [] [] p3) (fun σZ HZ Q => σZ[0]? = some (some (.ref f)) ∧ HZ c' = some (CodeO c' q) ∧ tl Ech HZ Q) := by subst hZ; exact hp
    have hs0 : PE (Z.tr pn xe) (.Constant (.str ("value" : Str)) j1 p1) (tC (.str "value")) := pe_str
    have hq := pss_one (ps_ret (pos := q1) (pe_tup (x1 := x1) (pos := p4) (pa_cons hs0 (pa_cons hp2 pa_nil rfl) rfl)))
    refine hq.run pins s' σ H' D I ?_
    exact ⟨h1, h2, h3⟩
  · have two : ∀ x y : V, ([x, y] : List V).length ≤ sizeLine := fun x y => by rw [sizeLine_eq]; show 2 ≤ _; omega
    have zl : Z.N.length = 2 := by
      rw [← hZ]
      have e := congrArg List.length (hst 0)
      unfold L2.start at e
      simp at e
      show Ng.length = 2
      omega
    have h0 : (L2.start Ng [V.ref f])[0]? = some (some (.ref f)) := by rw [hst]; rfl
    refine ⟨EchT X.K CS CM CN Q, fun cls d σ' H' w => ?_, h0, hc, h⟩
    obtain ⟨C, dd, fs, T, v, e1, e2, e3, e4, e5, e6, e7, e8⟩ := w
    subst e1
    subst e2
    have s1 : ∀ a : Addr, σ'.length = Z.N.length → (σ'.set 1 (some (.ref a)))[1]? = some (some (V.ref a)) := fun a hl => List.getElem?_set_self (by rw [hl, zl]; decide)
    have yes : (match fieldN T with | none => v = .non | some f => PySem.W.findIn X.K (.ref C) f = some none ∧ fs.lookup f = some v) → ∀ a, H' a = none → σ'.length = Z.N.length → tRet (tTup (tCons (tPin X.K a (.ref C) (some dd) "tag" (tVar 1)) (tCons (fun σ H Q => σ[1]? = some (some (.ref a)) ∧ tFld X.K a (.ref C) (some dd) fieldN { nx := fun _ H' => Q .non H', rt := Q } (L2.start Nf [.ref a]) H) tNil)))
        (ends1 1 { nx := fun _ H' => Q .non H', rt := Q }) (σ'.set 1 (some (.ref a))) H' := fun hv a ha hl =>
      ⟨.ref a, s1 a hl, C, dd, fs, .str T, rfl, rfl, rfl, e3, e4, e5, e6, s1 a hl, hsf a, C, dd, fs, T, v, rfl, rfl, e3, e4, e5, e6, hv, fun H2 ext => ⟨two _ _, fun p hp => e8 H2 ext p hp⟩⟩
    rw [← hZK] at e7
    rcases e7 with ⟨e7 | ⟨e7, e9⟩, hv⟩ | ⟨e7, e9, e10, hv⟩
    · exact ⟨true, e7, fun _ => yes (by rw [← hZK]; exact hv), fun z => by cases z⟩
    · exact ⟨false, e7, fun z => (by cases z), fun _ => ⟨true, e9, fun _ => yes (by rw [← hZK]; exact hv), fun z => by cases z⟩⟩
    · refine ⟨false, e7, fun z => (by cases z), fun _ => ⟨false, e9, fun z => (by cases z), fun _ => ⟨true, e10, fun _ a ha hl => ?_, fun z => by cases z⟩⟩⟩
      subst hv
      exact ⟨.ref a, s1 a hl, C, dd, fs, .str T, rfl, rfl, rfl, e3, e4, e5, e6, two _ _, fun p hp => e8 H' (fun _ _ z => z) p hp⟩
end

/-! ### the layer's form -/
/-- the errors by class numbers: the tag, the own field if there is one -/
def tryE (tb : List (Nat × Str × Option Str)) (x : Exn) : Option P := match tb.lookup x.c with
  | some (T, none) => (match x.l with | [.str T'] => if T = T' then some (.tup [.str T, .non]) else none | _ => none)
  | some (T, some _) => (match x.l with | [y, .str T'] => if T = T' then some (.tup [.str T, y]) else none | _ => none)
  | none => none
def mTryL (tb : List (Nat × Str × Option Str)) (m : EM) : EM := fun σ st => match m σ st with
  | .ok (.p x) st1 => .ok (.p (.tup [.str "value", x])) st1
  | .ok (.r _) _ => .no
  | .exc x st1 => (match tryE tb x with | some p => .ok (.p p) st1 | none => .no)
  | .no => .no
def nsOf : Option Str → List Str
  | none => ["tag"]
  | some f => [f, "tag"]
structure TryC (K : PySem.W.Frag) (cl : Cls) (CS CM CN : Addr) (c : Nat) (T : Str) (f : Option Str) : Prop where
  ex : ∃ C, cl[c]? = some (C, nsOf f) ∧ XfC K C ∧ PySem.W.findIn K (.ref C) ("tag" : Str) = some none ∧ (∀ g, f = some g → (g == ("tag" : Str)) = false ∧ PySem.W.findIn K (.ref C) g = some none) ∧
    (((PySem.W.exmOne K (.ref C) (.ref CS) = some true ∨ (PySem.W.exmOne K (.ref C) (.ref CS) = some false ∧ PySem.W.exmOne K (.ref C) (.ref CM) = some true)) ∧ fieldN T = f) ∨
      (PySem.W.exmOne K (.ref C) (.ref CS) = some false ∧ PySem.W.exmOne K (.ref C) (.ref CM) = some false ∧ PySem.W.exmOne K (.ref C) (.ref CN) = some true ∧ f = none))
/-- such a def of the program -/
structure LamD (P : Program) (w : World) (K : PySem.W.Frag) (mg : Str → Option Value) (base : Heap) (x : Str) (g CS CM CN : Addr) : Prop where
  ex : ∃ (oc : Value) (od : Option Addr) (osl : Array (Option Value)) (pg : Arguments) (bg : List Stmt) (sg : Scope) (dV kV doc pm cdv ct : Value) (an : Option Addr) (Ng : List Str) (a : Str),
    K.lookup g = some ⟨oc, od, .func (PySem.W.fnOf x x pg bg sg dV kV doc pm an cdv ct), osl⟩ ∧ PySem.W.codeIn K cdv x = true ∧ L2.Binds K (PySem.W.fnOf x x pg bg sg dV kV doc pm an cdv ct) [a] [] ∧ FnScope Ng [a] sg ∧ Ng[0]? = some a ∧ Vis sg a ∧ (a == ("__debug__" : Str)) = false ∧ (a == ("__classdict__" : Str)) = false ∧
    ∀ X : Cx, X.prog = P → X.w = w → X.K = K → X.mg = mg → X.base = base → Room 2 X.A → ∀ q, GivesTo X Ng x sg g cdv bg a q (TTry K CS CM CN)
  kp : PySem.W.keepIn K (.ref g) = true
section
variable {K : PySem.W.Frag} {cl : Cls} {X : Cx} {Wx : WX}
theorem gx_lam {A : Around} {outer : List Env} {s : Shared} {H : Hp} {E : XK} {scope : Scope} {f c' : Addr} {k : Nat} (g : GX K X) (hr : Room k (A.deeper (lamEnv X scope s.heap.objs.size f c'))) : GX K (lamCx X A outer s H E scope f c') :=
  ⟨g.hK, rfl, g.hN, by have := hr.un; show (A.deeper _).units + 65 < cLine; omega, hr.hd⟩
theorem tk_lam {A : Around} {outer : List Env} {s : Shared} {H : Hp} {E : XK} {scope : Scope} {f c' : Addr} : Takes (lamCx X A outer s H E scope f c') (WE E) := takes_of rfl rfl rfl rfl
theorem lookup_memG {α β : Type} [BEq α] [LawfulBEq α] {a : α} {b : β} : ∀ {l : List (α × β)}, l.lookup a = some b → (a, b) ∈ l
  | [], h => by cases h
  | (k, v) :: l, h => by
    rw [List.lookup_cons] at h
    split at h
    · rename_i e
      cases h
      rw [eq_of_beq e]
      exact List.mem_cons_self
    · exact List.mem_cons_of_mem _ (lookup_memG h)
theorem zip_tag {f : Option Str} {vs : List V} {T : Str} {y : V} (h : f = none ∧ vs = [.str T] ∨ ∃ g, f = some g ∧ (g == ("tag" : Str)) = false ∧ vs = [y, .str T]) : ((nsOf f).zip vs).lookup ("tag" : Str) = some (.str T) := by
  rcases h with ⟨rfl, rfl⟩ | ⟨g, rfl, hg, rfl⟩
  · rfl
  · have hg : (("tag" : Str) == g) = false := by
      have := beq_eq_false_iff_ne.mp hg
      exact beq_eq_false_iff_ne.mpr (Ne.symm this)
    simp [nsOf, List.lookup_cons, hg]
theorem se_try {tb : List (Nat × Str × Option Str)} {m : EM} {x : Str} {g CS CM CN c Pt : Addr} {k : Nat} {params : Arguments} {body : Expr} {scope : Scope} {p lpos pos : Pos} (D : LamD X.prog X.w X.K X.mg X.base x g CS CM CN) (ok : ∀ q ∈ tb, TryC X.K cl CS CM CN q.1 q.2.1 q.2.2) (gx : GX K X) (hr : Room (k + 2) X.A)
    (hg : Gl X x) (hm : X.mg x = some (.ref g)) (TB : TabB X.base X.mg c Pt) (hcode : X.env.code = .ref c) (hT : cl.tb = [(Pt, X.env.qual ++ ("<lambda>" : Str))]) (L : LamX.lamSB X.env.scope scope = true) (hdef : defaultsOf params X.env = ([], []))
    (hbind : ∀ (q : Str) (cl : List (Str × Addr)) (pm cv ctv : Value), bindArgs (PySem.W.kla_fn "<lambda>" q params body scope cl pm cv ctv) ⟨[], []⟩ = pure [])
    (hbody : ∀ (A : Around) (outer : List Env) (s : Shared) (H : Hp) (E : XK) (f c' : Addr), GX K (lamCx X A outer s H E scope f c') → Takes (lamCx X A outer s H E scope f c') (WE E) → Room k (A.deeper (lamEnv X scope s.heap.objs.size f c')) → SE K cl (lamCx X A outer s H E scope f c') (WE E) m body)
    (hdb : (x == ("__debug__" : Str)) = false) : SE K cl X Wx (mTryL tb m) (.Call (.Name x p) [.Lambda params body scope lpos] [] pos) := by
  have hK := gx.hK
  subst hK
  obtain ⟨oc, od, osl, pg, bg, sg, dV, kV, doc, pm, cdv, ct, an, Ng, a, lk, hcg, hb, Sg, hNg, hva, hd, hcd, hG⟩ := D.ex
  refine ⟨fun E0 ρ G σ st τ H Q R S h => T.of (LamX.pe_lamcall (T := cl.tb) (k := k) (t := fun E σ H Q => ∀ (A : Around) (outer : List Env) (s : Shared) (H0 : Hp) (f c' : Addr), Room k (A.deeper (lamEnv X scope s.heap.objs.size f c')) → Y.T (lamCx X A outer s H0 E scope f c') body σ H Q)
    hg hm D.kp lk hcg hb Sg hNg hva (hG X rfl rfl rfl rfl rfl (hr.mono (by omega)) _) TB hcode (by rw [hT]; simp) (fun q hq _ => by rw [hT] at hq; simp at hq; rw [hq]) hr (LamX.lamS_by L) hdef hbind
    (fun A outer s H E f c' hr2 => ⟨fun pins s' σ' H' Q' I h' => (h' A outer s H f c' hr2) pins s' I⟩) hdb hd hcd) ?_⟩
  refine ⟨R.tabs, fun H1 eN T1 => ?_⟩
  have R1 := R.grown eN T1
  show ∀ (A : Around) (outer : List Env) (s : Shared) (H0 : Hp) (f c' : Addr), Room k (A.deeper (lamEnv X scope s.heap.objs.size f c')) → Y.T (lamCx X A outer s H0 (EchT X.K CS CM CN Q) scope f c') body τ H1 _
  intro A outer s H0 f c' hr2
  refine (hbody A outer s H0 _ f c' (gx_lam gx hr2) tk_lam hr2).run E0 ρ G σ st τ H1 _ R1 S ?_
  have two : ∀ x y : V, ([x, y] : List V).length ≤ sizeLine := fun x y => by rw [sizeLine_eq]; show 2 ≤ _; omega
  unfold mTryL at h
  cases e : m σ st with
  | no => rw [e] at h; exact h
  | ok w st1 =>
    rw [e] at h
    cases w with
    | r i => exact h.elim
    | p x =>
      intro ρ' G' H' b p1 s1 R' u
      refine ⟨two _ _, fun a ha => ?_⟩
      have h2 : Aft (bs X.K cl E0) (bs X.K cl E0).RW ρ G (.ok (.p (.tup [.str "value", x])) st1) Q _ := h
      refine (Aft.mono p1 s1 h2).newP R' ha (.tup (.inl (.inl upd_same)) (.cons (.str _) (.cons ?_ .nil)))
      exact RP.mono (Sub.new (R'.gnone ha)) u
  | exc y st1 =>
    rw [e] at h
    intro ρ' G' H' cls d p1 s1 R' u
    have h2 : Aft (bs X.K cl E0) (bs X.K cl E0).RW ρ G (match tryE tb y with | some p => .ok (.p p) st1 | none => .no) Q _ := h
    obtain ⟨C, ns, dd, vs, k1, k2, k3, k4, k5, k6⟩ := u
    subst k2
    subst k3
    have endT : ∀ (T : Str) (py : P) (v : V), RP X.K cl G' py v → Aft (bs X.K cl E0) (bs X.K cl E0).RW ρ G (.ok (.p (.tup [.str T, py])) st1) Q (fun c d H' => Wx c d τ H') → ∀ H2, (∀ b o, H' b = some o → H2 b = some o) → ∀ p, H2 p = none → Q (.ref p) (upd H2 p (.tup [.str T, v])) := by
      intro T py v rv h3 H2 ext p hp
      have R2 : (bs X.K cl E0).Rel ρ' G' st1 H2 := R'.grown (LamX.ExtN.of ext) (LamX.Tabs.ext R'.tabs ext)
      refine (Aft.mono p1 s1 h3).newP R2 hp (.tup (.inl (.inl upd_same)) (.cons (.str _) (.cons ?_ .nil)))
      exact RP.mono (Sub.new (R2.gnone hp)) rv
    unfold tryE at h2
    cases el : tb.lookup y.c with
    | none => rw [el] at h2; exact h2.elim
    | some q =>
      obtain ⟨T, f⟩ := q
      rw [el] at h2
      obtain ⟨C', c1, c2, c3, c4, c5⟩ := (ok _ (lookup_memG el)).ex
      rw [k1] at c1
      obtain ⟨rfl, rfl⟩ := Prod.mk.inj (Option.some.inj c1)
      cases f with
      | none =>
        dsimp only at h2
        split at h2
        case h_2 => exact h2.elim
        rename_i T' eT
        split at eT
        case h_2 => cases eT
        rename_i T2 el2
        split at eT
        case isFalse => cases eT
        rename_i hT2
        subst hT2
        cases eT
        rw [el2] at k6
        cases k6 with
        | cons r1 r2 =>
          cases r1; cases r2
          refine ⟨C, dd, _, T, .non, rfl, rfl, c2, c3, k4, zip_tag (y := .non) (.inl ⟨rfl, rfl⟩), ?_, endT T .non .non .non h2⟩
          rcases c5 with ⟨z1, z2⟩ | ⟨z1, z2, z3, _⟩
          · exact .inl ⟨z1, by rw [z2]⟩
          · exact .inr ⟨z1, z2, z3, rfl⟩
      | some f =>
        dsimp only at h2
        split at h2
        case h_2 => exact h2.elim
        rename_i T' eT
        split at eT
        case h_2 => cases eT
        rename_i py T2 el2
        split at eT
        case isFalse => cases eT
        rename_i hT2
        subst hT2
        cases eT
        rw [el2] at k6
        obtain ⟨nt, hf⟩ := c4 f rfl
        cases k6 with
        | @cons _ v _ _ r1 r2 =>
          cases r2 with
          | cons r3 r4 =>
            cases r3; cases r4
            refine ⟨C, dd, _, T, v, rfl, rfl, c2, c3, k4, zip_tag (y := v) (.inr ⟨f, rfl, nt, rfl⟩), ?_, endT T py v r1 h2⟩
            rcases c5 with ⟨z1, z2⟩ | ⟨z1, z2, z3, z4⟩
            · refine .inl ⟨z1, ?_⟩
              rw [z2]
              exact ⟨hf, by simp [nsOf, List.lookup_cons]⟩
            · cases z4
end
end Y

/-! Y25: what the head tells beyond the kit's hook: defs by paths (getters, __init__ of exceptions), exceptions. -/
namespace Y
open PySem PySem.Spec PyProof.Rows L2
open PySem.W (ksFn ksEnv)
/-! ### defs by paths -/
structure DefE where
  at_ : PySem.W.Frag → Addr
  name : Str
  qual : Str
  params : Arguments
  body : List Stmt
  scope : Scope
  clo : List Str
abbrev FnE : Type := Option ((Str × Str × Arguments) × (FuncBody × Scope) × Addr × List Str × Addr)
def fnE (K : PySem.W.Frag) (a : Addr) : FnE := (K.lookup a).bind fun o => match o.data with
  | .func d => some ((d.name, d.qualname, d.params), (d.body, d.scope), d.globals, d.closure.map Prod.fst, d.builtins)
  | _ => none
def DefE.val (d : DefE) : FnE := some ((d.name, d.qual, d.params), (.stmts d.body, d.scope), mainGlobals, d.clo, builtinsNs)
def DefE.okB (K : PySem.W.Frag) (d : DefE) : Bool := (K.lookup (d.at_ K)).any fun o => match o.data with
  | .func e => PySem.W.keepIn K (.ref (d.at_ K)) && PySem.W.codeIn K e.code d.qual && He.dflB K e.defaults [] && He.kwdB K e.kwdefaults []
  | _ => false
theorem DefE.ex {K : PySem.W.Frag} {d : DefE} (e : fnE K (d.at_ K) = d.val) (c : d.okB K = true) : ∃ (oc : Value) (od : Option Addr) (osl : Array (Option Value)) (clo : List (Str × Addr)) (dV kV doc pm cdv ct : Value) (an : Option Addr),
    K.lookup (d.at_ K) = some ⟨oc, od, .func (PySem.W.fnX d.name d.qual d.params d.body d.scope clo dV kV doc pm an cdv ct), osl⟩ ∧ clo.map Prod.fst = d.clo ∧ PySem.W.keepIn K (.ref (d.at_ K)) = true ∧ PySem.W.codeIn K cdv d.qual = true ∧ DflV K dV [] ∧ KwdV K kV [] := by
  unfold fnE at e
  unfold DefE.okB at c
  cases q : K.lookup (d.at_ K) with
  | none => rw [q] at c; cases c
  | some o =>
    obtain ⟨oc, od, dt, osl⟩ := o
    rw [q] at c e
    cases dt with
    | func fd =>
      obtain ⟨n1, n2, n3, n4, n5, n6, n7, n8, n9, n10, n11, n12, n13, n14, n15⟩ := fd
      have e2 : (some ((n1, n2, n3), (n4, n5), n6, n7.map Prod.fst, n15) : FnE) = some ((d.name, d.qual, d.params), (.stmts d.body, d.scope), mainGlobals, d.clo, builtinsNs) := e
      simp only [Option.some.injEq, Prod.mk.injEq] at e2
      obtain ⟨⟨h1, h2, h3⟩, ⟨h4, h5⟩, h6, h7, h8⟩ := e2
      have c2 : (PySem.W.keepIn K (.ref (d.at_ K)) && PySem.W.codeIn K n13 d.qual && He.dflB K n8 [] && He.kwdB K n9 []) = true := c
      simp only [Bool.and_eq_true] at c2
      obtain ⟨⟨⟨k1, k2⟩, k3⟩, k4⟩ := c2
      refine ⟨oc, od, osl, n7, n8, n9, n10, n11, n13, n14, n12, ?_, h7, k1, k2, He.dflB_ok k3, He.kwdB_ok k4⟩
      subst h1 h2 h3 h4 h5 h6 h8
      rfl
    | _ => cases c
theorem DefE.funD {K : PySem.W.Frag} {d : DefE} (e : fnE K (d.at_ K) = d.val) (c : d.okB K = true) (h : d.clo = []) : ∃ fd, FunD K d.name d.qual d.params d.body d.scope [] [] (d.at_ K) fd := by
  obtain ⟨oc, od, osl, clo, dV, kV, doc, pm, cdv, ct, an, k1, k2, k3, k4, k5, k6⟩ := DefE.ex e c
  rw [h, List.map_eq_nil_iff] at k2
  subst k2
  exact ⟨_, ⟨oc, od, dV, kV, doc, pm, an, cdv, ct, osl, rfl, k1, k4, k5, k6⟩, k3⟩
/-! ### the hook -/
structure SaysE (fa : List He.Fa) (fn : List He.DefD) (ts : List He.Tab) (tf : List He.Defn) (ex : PySem.W.Frag → Bool) (es : List DefE) (w : World) (h : Heap) (K : PySem.W.Frag) : Prop where
  x : He.SaysX fa fn ts tf ex w h K
  e : es.map (fun d => fnE K (d.at_ K)) = es.map DefE.val
  ok : es.all (fun d => d.okB K) = true
theorem SaysE.def_ {fa : List He.Fa} {fn : List He.DefD} {ts : List He.Tab} {tf : List He.Defn} {ex : PySem.W.Frag → Bool} {es : List DefE} {w : World} {h : Heap} {K : PySem.W.Frag} (c : SaysE fa fn ts tf ex es w h K) (i : Nat) {d : DefE} (hd : es[i]? = some d) : fnE K (d.at_ K) = d.val ∧ d.okB K = true := by
  have z := congrArg (fun l => l[i]?) c.e
  simp only [List.getElem?_map, hd] at z
  exact ⟨Option.some.inj z, List.all_eq_true.mp c.ok d (List.mem_of_getElem? hd)⟩
abbrev AlE : Type := He.AlX × Bool × List FnE
/-- the code objects of defs by paths -/
def codesE (K : PySem.W.Frag) (es : List DefE) : List Addr := es.filterMap fun d => (K.lookup (d.at_ K)).bind fun o => match o.data with
  | .func e => (match e.code with
    | .ref c => some c
    | _ => none)
  | _ => none
def frE (n : Nat) (es : List DefE) (g : Addr → Option Obj) : PySem.W.Frag := (fun r : List Addr => He.frT g (r ++ codesE (He.frT g r) es)) (He.asD g n ++ [cStatics])
def obsE (n : Nat) (fa : List He.Fa) (fn : List He.DefD) (ts : List He.Tab) (tf : List He.Defn) (ex : PySem.W.Frag → Bool) (es : List DefE) (g : Addr → Option Obj) : AlE :=
  (fun K : PySem.W.Frag => (((He.obsT fa fn ts K, ex K && He.tabsB g tf K), (es.all fun d => d.okB K), es.map fun d => fnE K (d.at_ K)) : AlE)) (frE n es g)
def valE' (fn : List He.DefD) (ts : List He.Tab) (es : List DefE) (w : World) : AlE := (He.valX fn ts w, true, es.map DefE.val)
theorem saysE_of {n : Nat} {fa : List He.Fa} {fn : List He.DefD} {ts : List He.Tab} {tf : List He.Defn} {ex : PySem.W.Frag → Bool} {es : List DefE} {w : World} {h : Heap} (e : obsE n fa fn ts tf ex es h.get? = valE' fn ts es w) : SaysE fa fn ts tf ex es w h (frE n es h.get?) := by
  have e1 : He.obsT fa fn ts (frE n es h.get?) = He.valT fn ts w := congrArg (fun z : AlE => z.1.1) e
  have e2 : (ex (frE n es h.get?) && He.tabsB h.get? tf (frE n es h.get?)) = true := congrArg (fun z : AlE => z.1.2) e
  have e3 : (es.all fun d => d.okB (frE n es h.get?)) = true := congrArg (fun z : AlE => z.2.1) e
  have e4 : (es.map fun d => fnE (frE n es h.get?) (d.at_ (frE n es h.get?))) = es.map DefE.val := congrArg (fun z : AlE => z.2.2) e
  rw [Bool.and_eq_true] at e2
  have key : ∀ p ∈ tf, PySem.W.codeHdIn (frE n es h.get?) (He.cT (frE n es h.get?) p).1 (He.cT (frE n es h.get?) p).2 = true ∧ ∃ o, h.get? (He.cT (frE n es h.get?) p).2 = some o ∧ He.emptyTab o = true := fun p hp => by
    have z := List.all_eq_true.mp e2.2 p hp
    rw [Bool.and_eq_true] at z
    refine ⟨z.1, ?_⟩
    have z2 := z.2
    cases q : h.get? (He.cT (frE n es h.get?) p).2 with
    | none => rw [q] at z2; cases z2
    | some o => rw [q] at z2; exact ⟨o, rfl, z2⟩
  refine ⟨⟨e1, e2.1, fun p hp => (key p hp).1, fun p hp => ?_, fun p hp => ?_⟩, e4, e3⟩
  · obtain ⟨_, o, q, z⟩ := key p hp
    exact He.frT_none q z
  · obtain ⟨_, o, q, z⟩ := key p hp
    rw [q, He.emptyTab_eq z]
def hookE' (n : Nat) (fa : List He.Fa) (fn : List He.DefD) (ts : List He.Tab) (tf : List He.Defn) (ex : PySem.W.Frag → Bool) (es : List DefE) : PySem.W.Hook where
  α := AlE
  obs := fun s => obsE n fa fn ts tf ex es s.heap.get?
  val := fun w => valE' fn ts es w
  says := fun w h => ∃ K : PySem.W.Frag, K.In h ∧ SaysE fa fn ts tf ex es w h K
  of := fun _ _ e => ⟨_, He.frT_in, saysE_of e⟩
  keeps := fun _ _ _ ⟨K, hK, c⟩ k => ⟨K, PySem.W.Frag.In.keeps hK k, ⟨⟨c.x.t, c.x.more, c.x.hd, c.x.out, fun p hp => k _ _ (c.x.empty p hp)⟩, c.e, c.ok⟩⟩
theorem obsE_eq {n : Nat} {fa : List He.Fa} {fn : List He.DefD} {ts : List He.Tab} {tf : List He.Defn} {ex : PySem.W.Frag → Bool} {es : List DefE} {g : Addr → Option Obj} {s : Shared} (h : ∀ a, g a = s.heap.get? a) : obsE n fa fn ts tf ex es g = (hookE' n fa fn ts tf ex es).obs s := by
  obtain rfl : g = s.heap.get? := funext h
  rfl
/-! ### exceptions -/
def oexD (C : Addr) : Value → Data → List (Option Value) → Bool
  | .type "type", .cls cd, sl => (match cd.mro, sl with
    | .ref c :: bm, [_, _, _, _, some (.builtin n), _] => decide (c = C) && decide (n = "ValueError.__new__") && !cd.hasDel && cd.hasDict && PySem.HandSPX.refsVE bm
    | _, _ => false)
  | _, _, _ => false
def oexB (K : PySem.W.Frag) (C : Addr) : Bool := ((K.lookup C).any fun o => oexD C o.cls o.data o.slots.toList) && He.eqO (PySem.W.findIn K (.ref C) "__setattr__") (some (some (.builtin "object.__setattr__"))) && decide (PySem.W.subIn K (.ref C) (.type "BaseException") = some true) && decide (PySem.W.typeIn K (.ref C) = some (.type "type")) && PySem.W.keepIn K (.ref C)
theorem oexB_ok {K : PySem.W.Frag} {C : Addr} (h : oexB K C = true) : OexC K C := by
  unfold oexB at h
  simp only [Bool.and_eq_true, decide_eq_true_eq] at h
  obtain ⟨⟨⟨⟨h1, h2⟩, h3⟩, h4⟩, h5⟩ := h
  refine ⟨?_, He.eqO_ok h2, h3, h4, h5⟩
  cases q : K.lookup C with
  | none => rw [q] at h1; cases h1
  | some o =>
    rw [q] at h1
    obtain ⟨oc, od, dt, osl⟩ := o
    replace h1 : oexD C oc dt osl.toList = true := h1
    unfold oexD at h1
    split at h1
    case h_2 => cases h1
    rename_i cd
    split at h1
    case h_2 => cases h1
    rename_i c bm k0 k1 k2 k3 n k5 hm hs
    simp only [Bool.and_eq_true, decide_eq_true_eq, Bool.not_eq_true'] at h1
    obtain ⟨⟨⟨⟨rfl, rfl⟩, g3⟩, g4⟩, g5⟩ := h1
    obtain ⟨c1, c2, c3, c4, c5, c6, c7, c8, c9, c10, c11⟩ := cd
    dsimp only at hm g3 g4
    subst hm g3 g4
    obtain rfl : osl = #[k0, k1, k2, k3, some (.builtin "ValueError.__new__"), k5] := by
      obtain ⟨l⟩ := osl
      simp only at hs
      rw [hs]
    exact ⟨_, _, _, _, _, _, _, _, _, _, _, _, _, _, _, rfl, g5⟩
def cellD (C : Addr) : Data → Bool
  | .cell (some (.ref c)) => decide (c = C)
  | _ => false
def strIs (z : Str) : Option Value → Bool
  | some (.str y _) => z == y
  | _ => false
def fileD (z : Str) : Data → Bool
  | .fields vs => strIs z vs[2]?
  | _ => false
def cellB (K : PySem.W.Frag) (cc C : Addr) : Bool := (K.lookup cc).any fun o => cellD C o.data
def fileB (K : PySem.W.Frag) (a : Addr) (z : Str) : Bool := (K.lookup a).any fun o => fileD z o.data
theorem cellB_ok {K : PySem.W.Frag} {cc C : Addr} (h : cellB K cc C = true) : ∃ cl0 cd0 csl, K.lookup cc = some ⟨cl0, cd0, .cell (some (.ref C)), csl⟩ := by
  unfold cellB at h
  cases q : K.lookup cc with
  | none => rw [q] at h; cases h
  | some o =>
    obtain ⟨o1, o2, dt, o3⟩ := o
    rw [q] at h
    replace h : cellD C dt = true := h
    unfold cellD at h
    split at h
    · rw [of_decide_eq_true h]
      exact ⟨_, _, _, rfl⟩
    · cases h
theorem fileB_ok {K : PySem.W.Frag} {a : Addr} {z : Str} (h : fileB K a z = true) : ∃ o1 o2 vs o3 tf, K.lookup a = some ⟨o1, o2, .fields vs, o3⟩ ∧ vs[2]? = some (.str z tf) := by
  unfold fileB at h
  cases q : K.lookup a with
  | none => rw [q] at h; cases h
  | some o =>
    obtain ⟨o1, o2, dt, o3⟩ := o
    rw [q] at h
    replace h : fileD z dt = true := h
    cases dt with
    | fields vs =>
      replace h : strIs z vs[2]? = true := h
      cases e : vs[2]? with
      | none => rw [e] at h; cases h
      | some v =>
        rw [e] at h
        cases v with
        | str y t =>
          have e2 : z = y := eq_of_beq h
          subst e2
          exact ⟨_, _, vs, _, t, rfl, e⟩
        | _ => cases h
    | _ => cases h
def cloOf (K : PySem.W.Frag) (f : Addr) : Option (Addr × Addr) := (K.lookup f).bind fun o => match o.data with
  | .func d => (match d.closure, d.code with | [q], .ref a => some (q.2, a) | _, _ => none)
  | _ => none
/-- what is looked up of an exception class of the program: x its name, g its own field, z the program's file -/
def excB (K : PySem.W.Frag) (x z : Str) (g : Option Str) : Bool := oexB K (He.ga K x) && xfB K (He.ga K x) && He.eqO (PySem.W.findIn K (.ref (He.ga K x)) "tag") (some none) && (g.all fun f => He.eqO (PySem.W.findIn K (.ref (He.ga K x)) f) (some none) && !(f == ("tag" : Str))) &&
  He.eqO (PySem.W.findIn K (.ref (He.ga K x)) "__init__") (some (some (.ref (He.ma K (He.ga K x) "__init__")))) && decide (PySem.W.typeIn K (.ref (He.ma K (He.ga K x) "__init__")) = some (.type "function")) &&
  ((cloOf K (He.ma K (He.ga K x) "__init__")).any fun q => cellB K q.1 (He.ga K x) && fileB K q.2 z) && He.eqO (PySem.W.ks_superIn K (He.ga K x) (He.ga K x) "__init__") (some (some (.builtin "ValueError.__init__"))) &&
  decide (PySem.W.mroIn K (He.ga K x) (.ref (He.ga K x)) = some true) && decide (PySem.W.subIn K (.ref (He.ga K x)) (.type "ValueError") = some true) && He.eqO (PySem.W.nsIn K cStatics "thirdparty.any") (some none)
/-- the program's file -/
structure FileOf (P : Program) (z : Str) : Prop where
  file : ((P.main.file : Str) == z) = true
  top : (P.main.scope.names.lookup ("super" : Str)).isSome = false
section
variable {P : Program} {w : World} {K : PySem.W.Frag} {mg : Str → Option Value} {base : Heap} {cl : Cls} {x z : Str} {g : Option Str}
theorem excB_say (pf : FileOf P z) (h : excB K x z g = true) {d : DefE} (hat : d.at_ = fun K => He.ma K (He.ga K x) "__init__") (hn : d.name = "__init__") (hclo : d.clo = [("__class__" : Str)]) (e : fnE K (d.at_ K) = d.val) (c : d.okB K = true) (hsup : mg "super" = none)
    (hpar : ∃ ar, (d.params.posonlyargs ++ d.params.args).head? = some ar ∧ ar.arg = ("self" : Str)) :
    ∃ (cc cda : Addr) (fd : FuncData), SayF P K mg (He.ga K x) (He.ma K (He.ga K x) "__init__") cc cda "__init__" d.qual d.params d.body d.scope fd ∧ ∃ kV doc pm an cdv ct, fd = ksFn "__init__" d.qual d.params d.body d.scope .none kV doc pm an cdv ct cc := by
  unfold excB at h
  simp only [Bool.and_eq_true, decide_eq_true_eq] at h
  obtain ⟨⟨⟨⟨⟨⟨⟨⟨⟨⟨h1, h2⟩, h3⟩, h4⟩, h5⟩, h6⟩, h7⟩, h8⟩, h9⟩, h10⟩, h11⟩ := h
  obtain ⟨oc, od, osl, clo, dV, kV, doc, pm, cdv, ct, an, k1, k2, k3, k4, k5, k6⟩ := DefE.ex e c
  rw [hclo] at k2
  rw [hat] at k1 k3
  obtain ⟨q, rfl, eq⟩ : ∃ q : Str × Addr, clo = [q] ∧ q.1 = ("__class__" : Str) := by
    cases clo with
    | nil => cases k2
    | cons q l =>
      cases l with
      | nil => exact ⟨q, rfl, by simpa using k2⟩
      | cons _ _ => simp at k2
  obtain ⟨cn, cc⟩ := q
  dsimp only at eq
  subst eq
  have k1 : K.lookup (He.ma K (He.ga K x) "__init__") = _ := k1
  unfold cloOf at h7
  rw [k1] at h7
  obtain ⟨cda, rfl⟩ := He.codeIn_ref k4
  have h7 : (cellB K cc (He.ga K x) && fileB K cda z) = true := h7
  rw [Bool.and_eq_true] at h7
  obtain ⟨h13, h12⟩ := h7
  obtain rfl : dV = .none := by
    rcases k5 with ⟨_, q⟩ | ⟨q, _⟩
    · exact q
    · exact absurd rfl q
  refine ⟨cc, cda, _, ⟨oexB_ok h1, ⟨oc, od, .none, kV, doc, pm, an, ct, osl, rfl, ?_⟩, k4, ?_, hpar, ?_, pf.top, hsup, He.eqO_ok h8, h9, h10, He.eqO_ok h11⟩, kV, doc, pm, an, .ref cda, ct, rfl⟩
  · rw [k1, hn]
  · exact cellB_ok h13
  · obtain ⟨o1, o2, vs, o3, tf, e1, e2⟩ := fileB_ok h12
    exact ⟨o1, o2, vs, o3, z, tf, e1, e2, pf.file⟩
end
end Y

/-! Y26: exceptions from the head's facts; raising defs that call themselves; getters; try .. except C: return a constant. -/
namespace Y
open PySem PySem.Spec PyProof.Rows L2
open PySem.W (ksFn ksEnv)
/-! ### exceptions -/
section
variable {P : Program} {w : World} {K : PySem.W.Frag} {mg : Str → Option Value} {base : Heap} {cl : Cls} {x z : Str} {g : Option Str}
theorem excB_parts (h : excB K x z g = true) : OexC K (He.ga K x) ∧ XfC K (He.ga K x) ∧ PySem.W.findIn K (.ref (He.ga K x)) "tag" = some none ∧ (∀ f, g = some f → (f == ("tag" : Str)) = false ∧ PySem.W.findIn K (.ref (He.ga K x)) f = some none) ∧
    PySem.W.findIn K (.ref (He.ga K x)) "__init__" = some (some (.ref (He.ma K (He.ga K x) "__init__"))) ∧ PySem.W.typeIn K (.ref (He.ma K (He.ga K x) "__init__")) = some (.type "function") := by
  unfold excB at h
  simp only [Bool.and_eq_true, decide_eq_true_eq] at h
  obtain ⟨⟨⟨⟨⟨⟨⟨⟨⟨⟨h1, h2⟩, h3⟩, h4⟩, h5⟩, h6⟩, h7⟩, h8⟩, h9⟩, h10⟩, h11⟩ := h
  refine ⟨oexB_ok h1, xfB_ok h2, He.eqO_ok h3, fun f hf => ?_, He.eqO_ok h5, h6⟩
  subst hf
  have h4 : (He.eqO (PySem.W.findIn K (.ref (He.ga K x)) f) (some none) && !(f == ("tag" : Str))) = true := h4
  rw [Bool.and_eq_true, Bool.not_eq_true'] at h4
  exact ⟨h4.2, He.eqO_ok h4.1⟩
abbrev superCall (m : Str) (j : Nat) (p0 p1 p2 p3 p4 : Pos) : Expr := .Call (.Attribute (.Call (.Name "super" p0) [] [] p1) "__init__" p2) [.Constant (.str m) j p3] [] p4
/-- how the call of super().__init__(text) is read -/
def SaysUp (qual : Str) (scope : Scope) (m : Str) (j : Nat) (p0 p1 p2 p3 p4 p5 : Pos) : Prop := ∀ (f cda cc : Addr), ∃ pl : Sem Bool, ∀ L, eval (superCall m j p0 p1 p2 p3 p4) (ksEnv qual scope L f (.ref cda) cc) = (do
      let ov ← attributeBase (.Call (.Name "super" p0) [] [] p1) "__init__" (ksEnv qual scope L f (.ref cda) cc) (eval (.Call (.Name "super" p0) [] [] p1) (ksEnv qual scope L f (.ref cda) cc))
      standAt p2.atName
      let (f', first) ← holding [ov] (getMethod ov "__init__" pl)
      callWith p4 f' first (backTo p4 (starEach [.Constant (.str m) j p3] (ksEnv qual scope L f (.ref cda) cc))) []) ∧
    interactive (ksEnv qual scope L f (.ref cda) cc) = false ∧ swapsWith (superCall m j p0 p1 p2 p3 p4) none p5.line (ksEnv qual scope L f (.ref cda) cc) = pure false
theorem exc0_of {c j j2 : Nat} {T m : Str} {p0 p1 p2 p3 p4 p5 q1 q2 q3 q4 : Pos} {qual : Str} {params : Arguments} {scope : Scope} (pf : FileOf P z) (h : excB K x z none = true) (hsup : mg "super" = none) (hC : cl[c]? = some (He.ga K x, [("tag" : Str)]))
    (dd : (⟨fun K => He.ma K (He.ga K x) "__init__", "__init__", qual, params, [.Expr (superCall m j p0 p1 p2 p3 p4) p5, .Assign [.Attribute (.Name "self" q1) "tag" q2] (.Constant (.str T) j2 q3) q4], scope, [("__class__" : Str)]⟩ : DefE).okB K = true)
    (de : fnE K (He.ma K (He.ga K x) "__init__") = (⟨fun K => He.ma K (He.ga K x) "__init__", "__init__", qual, params, [.Expr (superCall m j p0 p1 p2 p3 p4) p5, .Assign [.Attribute (.Name "self" q1) "tag" q2] (.Constant (.str T) j2 q3) q4], scope, [("__class__" : Str)]⟩ : DefE).val)
    (hpar : ∃ ar, (params.posonlyargs ++ params.args).head? = some ar ∧ ar.arg = ("self" : Str)) (S : CScope ["self"] scope) (up : SaysUp qual scope m j p0 p1 p2 p3 p4 p5)
    (bd : ∀ (kV doc pm : Value) (an : Option Addr) (cdv ct : Value) (cc : Addr) (us : List Value), us.length = 1 → bindArgs (ksFn "__init__" qual params [.Expr (superCall m j p0 p1 p2 p3 p4) p5, .Assign [.Attribute (.Name "self" q1) "tag" q2] (.Constant (.str T) j2 q3) q4] scope .none kV doc pm an cdv ct cc) ⟨us, []⟩ = pure ([("self" : Str)].zip us))
    (hs : ∀ X : Cx, swapsWith (.Constant (.str T) j2 q3) (some (.Attribute (.Name "self" q1) "tag" q2)) q4.line X.env = pure false) :
    Exc0 P w K mg base cl 1 c (He.ga K x) T := by
  obtain ⟨cc, cda, fd, D, kV, doc, pm, an, cdv, ct, rfl⟩ := excB_say (mg := mg) pf h rfl rfl rfl de dd hsup hpar
  obtain ⟨e1, e2, e3, e4, e5, e6⟩ := excB_parts h
  obtain ⟨pl, hup⟩ := up (He.ma K (He.ga K x) "__init__") cda cc
  refine ⟨hC, e1, e3, _, _, e5, e6, say_fn (k := 0) (pl := pl) rfl D S (fun L => (hup L).1) (fun L => (hup L).2.1) (fun L => (hup L).2.2) (fun A outer s H => ?_), .all fun us hl => bd kV doc pm an cdv ct cc us hl⟩
  exact pss_one (ps_ost (pe_var (i := 0) rfl (.inl (S.par _ List.mem_cons_self)) (by decide +kernel) (by decide +kernel)) pe_str (hs _))
theorem exc1_of {c j j2 : Nat} {T m f pn : Str} {p0 p1 p2 p3 p4 p5 q1 q2 q3 q4 q5 q6 q7 q8 : Pos} {qual : Str} {params : Arguments} {scope : Scope} (pf : FileOf P z) (h : excB K x z (some f) = true) (hsup : mg "super" = none) (hC : cl[c]? = some (He.ga K x, [f, ("tag" : Str)]))
    (dd : (⟨fun K => He.ma K (He.ga K x) "__init__", "__init__", qual, params, [.Expr (superCall m j p0 p1 p2 p3 p4) p5, .Assign [.Attribute (.Name "self" q1) "tag" q2] (.Constant (.str T) j2 q3) q4, .Assign [.Attribute (.Name "self" q5) f q6] (.Name pn q7) q8], scope, [("__class__" : Str)]⟩ : DefE).okB K = true)
    (de : fnE K (He.ma K (He.ga K x) "__init__") = (⟨fun K => He.ma K (He.ga K x) "__init__", "__init__", qual, params, [.Expr (superCall m j p0 p1 p2 p3 p4) p5, .Assign [.Attribute (.Name "self" q1) "tag" q2] (.Constant (.str T) j2 q3) q4, .Assign [.Attribute (.Name "self" q5) f q6] (.Name pn q7) q8], scope, [("__class__" : Str)]⟩ : DefE).val)
    (hpar : ∃ ar, (params.posonlyargs ++ params.args).head? = some ar ∧ ar.arg = ("self" : Str)) (S : CScope ["self", pn] scope) (up : SaysUp qual scope m j p0 p1 p2 p3 p4 p5) (d1 : (pn == ("__debug__" : Str)) = false) (d2 : (pn == ("__classdict__" : Str)) = false)
    (bd : ∀ (kV doc pm : Value) (an : Option Addr) (cdv ct : Value) (cc : Addr) (us : List Value), us.length = 2 → bindArgs (ksFn "__init__" qual params [.Expr (superCall m j p0 p1 p2 p3 p4) p5, .Assign [.Attribute (.Name "self" q1) "tag" q2] (.Constant (.str T) j2 q3) q4, .Assign [.Attribute (.Name "self" q5) f q6] (.Name pn q7) q8] scope .none kV doc pm an cdv ct cc) ⟨us, []⟩ = pure ([("self" : Str), pn].zip us))
    (hs : ∀ X : Cx, swapsWith (.Constant (.str T) j2 q3) (some (.Attribute (.Name "self" q1) "tag" q2)) q4.line X.env = pure false) (hs2 : ∀ X : Cx, swapsWith (.Name pn q7) (some (.Attribute (.Name "self" q5) f q6)) q8.line X.env = pure false) :
    Exc1 P w K mg base cl 1 c (He.ga K x) T f pn := by
  obtain ⟨cc, cda, fd, D, kV, doc, pm, an, cdv, ct, rfl⟩ := excB_say (mg := mg) pf h rfl rfl rfl de dd hsup hpar
  obtain ⟨e1, e2, e3, e4, e5, e6⟩ := excB_parts h
  obtain ⟨pl, hup⟩ := up (He.ma K (He.ga K x) "__init__") cda cc
  refine ⟨hC, e1, e3, (e4 f rfl).2, _, _, e5, e6, say_fn (k := 0) (pl := pl) rfl D S (fun L => (hup L).1) (fun L => (hup L).2.1) (fun L => (hup L).2.2) (fun A outer s H => ?_), .all fun us hl => bd kV doc pm an cdv ct cc us hl⟩
  have v0 : ∀ p, PE (ccx P w K mg base ["self", pn] qual scope (He.ma K (He.ga K x) "__init__") cc (.ref cda) A outer s H) (.Name "self" p) (tVar 0) := fun p => pe_var (i := 0) rfl (.inl (S.par _ List.mem_cons_self)) (by decide +kernel) (by decide +kernel)
  have v1 : ∀ p, PE (ccx P w K mg base ["self", pn] qual scope (He.ma K (He.ga K x) "__init__") cc (.ref cda) A outer s H) (.Name pn p) (tVar 1) := fun p => pe_var (i := 1) rfl (.inl (S.par _ (List.mem_cons_of_mem _ List.mem_cons_self))) d1 d2
  exact pss_cons (ps_ost (v0 _) pe_str (hs _)) (pss_one (ps_ost (v0 _) (v1 _) (hs2 _)))
theorem tryC_of {c : Nat} {T : Str} {CS CM CN : Addr} (h : excB K x z g = true) (hC : cl[c]? = some (He.ga K x, nsOf g)) (h1 : PySem.W.exmOne K (.ref (He.ga K x)) (.ref CS) = some true) (h2 : fieldN T = g) : TryC K cl CS CM CN c T g := by
  obtain ⟨e1, e2, e3, e4, e5, e6⟩ := excB_parts h
  exact ⟨_, hC, e2, e3, e4, .inl ⟨.inl h1, h2⟩⟩
end
/-! ### raising defs that call themselves -/
section
variable {K : PySem.W.Frag} {cl : Cls} {X : Cx} {Wx : WX}
theorem Xk.zero {P : Program} {w : World} {mg : Str → Option Value} {base : Heap} {N ps : List Str} {x qual : Str} {params : Arguments} {body : List Stmt} {scope : Scope} {f : Addr} {F' : FM} (h : ∀ ws st, F' ws st = .no)
    (F : ∃ fd, FunD K x qual params body scope [] [] f fd) (bd : ∀ (kV doc pm : Value) (an : Option Addr) (cdv ct : Value) (us : List Value), us.length = ps.length → bindArgs (PySem.W.fnOf x qual params body scope .none kV doc pm an cdv ct) ⟨us, []⟩ = pure (ps.zip us)) : Xk P w K mg base cl 0 f ps F' := by
  obtain ⟨fd, F⟩ := F
  refine ⟨⟨fd, ⟨fun vs H Q E q => ?_, fun A outer s H args us vs Q E hr he hb hv q => ?_⟩, F.bindsN bd⟩, F.kp⟩
  · obtain ⟨ρ0, G0, st0, ws, R, r, a⟩ := q
    rw [h] at a; exact a.elim
  · obtain ⟨ρ0, G0, st0, ws, R, r, a⟩ := q
    rw [h] at a; exact a.elim
/-! ### no exception is taken: the wish False -/
theorem tk0 : Takes X WF := fun _ _ x => by
  obtain ⟨_, _, _, _, _, _, _, _, _, _, _, _, _, _, _, _, z⟩ := x
  exact z.elim
theorem wi0 : WI WF := fun _ _ _ _ _ h => h
/-- what goes well goes well under any wish -/
theorem SE.weak {m : EM} {e : Expr} (h : SE K cl X WF m e) : SE K cl X Wx (fun σ st => (m σ st).nox) e := by
  refine ⟨fun E0 ρ G σ st τ H Q R S q => h.run E0 ρ G σ st τ H Q R S ?_⟩
  have q : Aft (bs K cl E0) (bs K cl E0).RW ρ G (m σ st).nox Q _ := q
  exact Aft.noxZ q
/-! ### getters -/
structure Pk (P : Program) (w : World) (K : PySem.W.Frag) (mg : Str → Option Value) (base : Heap) (cl : Cls) (k : Nat) (C : Addr) (f : Str) (F : FM) : Prop where
  ex : ∃ p g fd ps, PropOf K C f p g ∧ FnOk P w K mg base CX0 k g fd ps (spF K cl F) ∧ Binds K fd ps []
def mProp (c : Nat) (F : FM) (o : EM) : EM := fun σ st => (o σ st).bind fun w st1 => if clsOf st1 w = some c then (callF F [w] st1).nox else .no
theorem propK {C : Addr} {ns : List Str} {c k : Nat} {F : FM} {o : EM} {eo : Expr} {f : Str} {pos : Pos} (h : Pk X.prog X.w X.K X.mg X.base cl k C f F) (g : GX K X) (hr : Room (k + 1) X.A) (hC : cl[c]? = some (C, ns)) (kc : L2.Cls K C) (ho : SE K cl X Wx o eo) (hb : attributeBase eo f X.env (eval eo X.env) = eval eo X.env) :
    SE K cl X Wx (mProp c F o) (.Attribute eo f pos) := by
  obtain ⟨hK, _⟩ := g
  subst hK
  obtain ⟨p, gf, fd, ps, h1, h2, h3⟩ := h.ex
  refine ⟨fun E0 ρ G σ st τ H Q R S q => T.of (pe_prop (E := L2.E0) T.pe kc h1 h2 hr h3 .nil (fun _ _ _ _ _ _ _ z => z.elim) hb) ?_⟩
  refine ho.run E0 ρ G σ st τ H _ R S (Aft.seq q fun w st1 ρ1 G1 H1 v e1 p1 s1 R1 u1 h1 => ?_)
  split at h1
  case isFalse => exact h1.elim
  rename_i ec
  obtain ⟨b, dx, vs, rfl, hH⟩ := clsOf_ok R1 u1 ec hC
  exact ⟨b, dx, _, rfl, hH, callF_ok R1 (.cons u1 .nil) (ws := [w]) (vs := [.ref b]) (Aft.noxZ h1)⟩
end
/-- a property's getter -/
def propGet (K : PySem.W.Frag) (C : Addr) (f : Str) : Addr × Addr := match PySem.W.findIn K (.ref C) f with
  | some (some (.ref p)) => (match PySem.W.recIn K p "property" with
    | some (.ref g :: _) => (p, g)
    | _ => (p, 0))
  | _ => (0, 0)
def propB (K : PySem.W.Frag) (C : Addr) (f : Str) : Bool := He.eqO (PySem.W.findIn K (.ref C) f) (some (some (.ref (propGet K C f).1))) && He.eqO (PySem.W.specialIn K (.ref (propGet K C f).1) "__get__") (some (some (.builtin "property.__get__"))) && decide (PySem.W.takesIn K (.ref (propGet K C f).1) = some true) &&
  ((PySem.W.recIn K (propGet K C f).1 "property").any fun l => match l with | .ref g :: _ => decide (g = (propGet K C f).2) | _ => false)
theorem propB_ok {K : PySem.W.Frag} {C : Addr} {f : Str} (h : propB K C f = true) : PropOf K C f (propGet K C f).1 (propGet K C f).2 := by
  unfold propB at h
  simp only [Bool.and_eq_true, decide_eq_true_eq] at h
  obtain ⟨⟨⟨h1, h2⟩, h3⟩, h4⟩ := h
  refine ⟨He.eqO_ok h1, He.eqO_ok h2, h3, ?_⟩
  cases q : PySem.W.recIn K (propGet K C f).1 "property" with
  | none => rw [q] at h4; cases h4
  | some l =>
    rw [q] at h4
    cases l with
    | nil => cases h4
    | cons u r =>
      cases u with
      | ref g =>
        have e : g = (propGet K C f).2 := of_decide_eq_true h4
        rw [e]
        exact ⟨_, rfl⟩
      | _ => cases h4
theorem Pk.of {P : Program} {w : World} {K : PySem.W.Frag} {mg : Str → Option Value} {base : Heap} {cl : Cls} {k : Nat} {C : Addr} {f : Str} {F : FM} {ps : List Str} (h : PropOf K C f (propGet K C f).1 (propGet K C f).2) (hF : Fk P w K mg base cl k (propGet K C f).2 ps F) : Pk P w K mg base cl k C f F := by
  obtain ⟨fd, h1, h2⟩ := hF.ex
  exact ⟨_, _, fd, ps, h, h1, h2⟩
/-! ### try: body; except C: return a constant -/
/-- the classes' answers by number -/
def sTryC (T : List (Nat × Bool)) (b : SMm) (x : P) : SMm := fun σ st => match b σ st with
  | .exc e σ1 st1 => (match T.lookup e.c with
    | some true => .ok (.rt (.p x)) σ1 st1
    | some false => .exc e σ1 st1
    | none => .no)
  | r => r
section
variable {K : PySem.W.Frag} {cl : Cls} {X : Cx} {Wx : WX}
theorem GX.tr (g : GX K X) {pn : List (Addr × Obj)} {xe : Value → Shared → Prop} : GX K (X.tr pn xe) := ⟨g.hK, g.hc, g.hN, g.hu, g.hh⟩
theorem ss_tryC {T : List (Nat × Bool)} {b : SMm} {body : List Stmt} {cn : Str} {CA : Addr} {r : Expr} {x : P} {v : V} {np pos pos' rp : Pos} (g : GX K X) (hs : X.stack = X.env :: X.outer) (hf : X.env.frame = some X.env.locals) (hc : Gl X cn) (hm : X.mg cn = some (.ref CA)) (hd : (cn == ("__debug__" : Str)) = false)
    (tk : Takes X Wx) (wi : WI Wx) (hT : ∀ q ∈ T, ∃ C ns, cl[q.1]? = some (C, ns) ∧ PySem.W.exmOne K (.ref C) (.ref CA) = some q.2)
    (hr : ∀ Y : Cx, PE Y r (tC v)) (hx : ∀ G, RP K cl G x v)
    (hb : ∀ (W : WX) (pn : List (Addr × Obj)) (xe : Value → Shared → Prop), WI W → Takes (X.tr pn xe) W → GX K (X.tr pn xe) → SSs K cl (X.tr pn xe) W b body) :
    SS K cl X Wx (sTryC T b x) (.Try body [.ExceptHandler (some (.Name cn np)) none [.Return (some r) rp] pos'] [] [] pos) := by
  have hK := g.hK
  subst hK
  refine ⟨fun E0 ρ G σ st τ H D R S q => TS'.of (ps_try_only (c := .ref CA) (tb := fun W D σ H => ∀ (pn : List (Addr × Obj)) (xe : Value → Shared → Prop), Takes (X.tr pn xe) W → TSs' (X.tr pn xe) body D σ H) (ts := fun _ _ _ => tRet (tC v)) hs hf ⟨hc, hd, .inl hm⟩ tk (fun W pn xe tk' _ => ⟨fun pins s σ H D I h => h pn xe tk' pins s I⟩) (fun a oe cls d pn _ _ => pss_one (ps_ret (hr _)))) ?_⟩
  intro pn xe tk'
  have wi' : WI (wOnly X.K (.ref CA) (fun _ _ _ => tRet (tC v)) Wx D) := fun c d σ σ' H ⟨b, h1, h2, h3⟩ => ⟨b, h1, h2, fun e => wi c d σ σ' H (h3 e)⟩
  refine (hb _ pn xe wi' tk' g.tr).run E0 ρ G σ st τ H D R S ?_
  unfold sTryC at q
  cases e : b σ st with
  | no => rw [e] at q; exact q
  | ok f σ1 st1 => rw [e] at q; exact q
  | exc y σ1 st1 =>
    rw [e] at q
    replace q : AftS (bs X.K cl E0) ρ G (match T.lookup y.c with
      | some true => .ok (.rt (.p x)) σ1 st1
      | some false => .exc y σ1 st1
      | none => .no) D Wx := q
    intro ρ' G' H' τ' cls d p s R' S' u
    cases el : T.lookup y.c with
    | none => rw [el] at q; exact q.elim
    | some k =>
      rw [el] at q
      obtain ⟨C, ns, c1, c2⟩ := hT _ (lookup_memG el)
      obtain ⟨C', ns', dd, vs, k1, k2, k3, k4, k5, k6⟩ := id u
      rw [k1] at c1
      obtain ⟨rfl, rfl⟩ := Prod.mk.inj (Option.some.inj c1)
      subst k2
      cases k with
      | true =>
        refine ⟨true, c2, fun _ a ha => ?_, fun z => by cases z⟩
        have q2 : AftS (bs X.K cl E0) ρ G (.ok (.rt (.p x)) σ1 st1) D Wx := q
        exact q2 ρ' G' H' τ' p s R' S' v (hx G')
      | false =>
        refine ⟨false, c2, fun z => (by cases z), fun _ => ?_⟩
        have q2 : AftS (bs X.K cl E0) ρ G (.exc y σ1 st1) D Wx := q
        exact q2 ρ' G' H' τ' (.ref C') d p s R' S' u
end
end Y

/-! Y27: ==, !=, repr, len, calls, & and | of instances; keywords of raising defs. -/
namespace Y
open PySem PySem.Spec PyProof.Rows L2
/-! ### == and != -/
/-- a value whose type is no class below C -/
inductive TyK (K : PySem.W.Frag) (C : Addr) (H : Hp) : V → Prop
  | non : TyK K C H .non
  | bl (b : Bool) : TyK K C H (.bl b)
  | int (i : Int) : TyK K C H (.int i)
  | str (z : Str) : TyK K C H (.str z)
  | tup {a : Addr} {xs : List V} (h : SqT K H a xs) : TyK K C H (.ref a)
  | lst {a : Addr} {xs : List V} (h : SqL K H a xs) : TyK K C H (.ref a)
  | own {a dx : Addr} {fs : List (Str × V)} (h : H a = some (.ins C dx fs)) : TyK K C H (.ref a)
def plainTypes : List String := ["NoneType", "bool", "int", "str", "tuple", "list"]
theorem notFirst_plain {K : PySem.W.Frag} {C : Addr} {T : String} (h : T ∈ plainTypes) : PySem.W.notFirst K C (.type T) = true := by
  simp only [plainTypes, List.mem_cons, List.not_mem_nil, or_false] at h
  rcases h with rfl | rfl | rfl | rfl | rfl | rfl <;> rfl
theorem TyK.looks {X : Cx} {pins : List (Addr × Obj)} {σ : L2.St} {H : Hp} {s : Shared} {C : Addr} {y : V} {u : Value} (t : TyK X.K C H y) (I : Inv X pins σ H s) (r : RelV y u) : ∃ tb, PySem.W.Looks (model X.prog X.w) s.heap (typeOf u) tb ∧ PySem.W.notFirst X.K C tb = true := by
  cases t with
  | non => cases r; exact ⟨.type "NoneType", .of_pure rfl, notFirst_plain (by decide)⟩
  | bl b => cases r; exact ⟨.type "bool", .of_pure rfl, notFirst_plain (by decide)⟩
  | int i => obtain ⟨t, rfl⟩ := r; exact ⟨.type "int", .of_pure rfl, notFirst_plain (by decide)⟩
  | str z => obtain ⟨t, rfl⟩ := r; exact ⟨.type "str", .of_pure rfl, notFirst_plain (by decide)⟩
  | tup h =>
    cases r
    obtain ⟨its, r', ⟨o, e, hc, n, hd⟩, hz⟩ := I.tuple h
    exact ⟨.type "tuple", fun A Q E s k q => wpAny_typeOf_ref (k _ _ e) (by rw [hc]; exact q), notFirst_plain (by decide)⟩
  | lst h =>
    cases r
    obtain ⟨its, r', ⟨o, n, e, hc, _, hd⟩, hz⟩ := I.list h
    exact ⟨.type "list", fun A Q E s k q => wpAny_typeOf_ref (k _ _ e) (by rw [hc]; exact q), notFirst_plain (by decide)⟩
  | own h =>
    cases r
    obtain ⟨mA, O, _⟩ := ins_get I.hok h
    obtain ⟨od, J, _⟩ := O.look
    exact ⟨.ref C, J.type, by simp [PySem.W.notFirst]⟩
/-- what a class without a != of its own says of it -/
def neB (K : PySem.W.Frag) (C : Addr) : Bool := He.eqO (PySem.W.findIn K (.ref C) "__ne__") (some (some (.builtin "object.__ne__"))) && decide (PySem.W.subIn K (.ref C) (.type "object") = some true)
structure NeC (K : PySem.W.Frag) (C : Addr) : Prop where
  ne : PySem.W.findIn K (.ref C) "__ne__" = some (some (.builtin "object.__ne__"))
  ob : PySem.W.subIn K (.ref C) (.type "object") = some true
theorem neB_ok {K : PySem.W.Frag} {C : Addr} (h : neB K C = true) : NeC K C := by
  unfold neB at h
  rw [Bool.and_eq_true] at h
  exact ⟨He.eqO_ok h.1, of_decide_eq_true h.2⟩
def rEqO (K : PySem.W.Frag) (C : Addr) (sp : Sp) (neg : Bool) : R2 := fun x y H Q => ∃ a dx fs, x = .ref a ∧ H a = some (.ins C dx fs) ∧ TyK K C H y ∧ sp [x, y] H (fun v H' => ∃ k, v = .bl k ∧ Q (.bl (k != neg)) H') L2.E0
section
variable {X : Cx} {C f : Addr} {fd : FuncData} {ps : List Str} {sp : Sp} {k : Nat}
theorem op_eqO (hmt : Meth X.K C "__eq__" f) (Fk : FnOk X.prog X.w X.K X.mg X.base CX0 k f fd ps sp) (hr : Room k X.A) (hb : Binds X.K fd ps []) (hu : X.A.units < cLine) : OpR X (compareOp .Eq) (rEqO X.K C sp false) := by
  intro pins s σ H x y v u Q I rx ry h
  obtain ⟨a, dx, fs, rfl, eH, ty, h⟩ := h
  obtain rfl : v = .ref a := rx
  obtain ⟨mA, O, _⟩ := ins_get I.hok eH
  obtain ⟨od, J, _⟩ := O.look
  obtain ⟨tb, lt, nf⟩ := ty.looks I ry
  obtain ⟨m, hF⟩ := I.fr
  refine PySem.W.cmp_K (op := .Eq) (tb := tb) hu hF I.ok.mod.kin J lt nf hmt.at_ hmt.fn ?_
  refine wpAny_mono (run_fn (E := L2.E0) (us := [.ref a, u]) (vs := [.ref a, y]) Fk hr hb .nil pass0 I (.cons rfl (.cons ry .nil)) h) (fun w s' z => ?_) fun _ _ z => z
  obtain ⟨v, H', I', rv, b, eb, q⟩ := z
  subst eb
  cases rv
  exact ⟨.bl b, H', I', rfl, by simpa using q⟩
theorem run_in1 {pins : List (Addr × Obj)} {σ : L2.St} {H : Hp} {s : Shared} {Q : VK} {E' : Value → Shared → Prop} {us : List Value} {vs : List V} (Fk : FnOk X.prog X.w X.K X.mg X.base CX0 k f fd ps sp) (hr : Room (k + 1) X.A) (hb : Binds X.K fd ps []) (I : Inv X pins σ H s) (r : Vals vs us) (h : sp vs H Q L2.E0) :
    wpAny (model X.prog X.w) X.A.in1 (call (.ref f) us) (EP X pins σ Q) E' s := by
  have hl : (us ++ []).length = ps.length := by rw [List.append_nil, ← r.length]; exact Fk.len _ _ _ _ h
  have b := hb s us I.kIn hl
  rw [List.append_nil] at b
  refine wpAny_call (codeAny_mono (Fk.run X.A.in1 X.stack s H ⟨us, []⟩ us vs Q L2.E0 hr.in1 I.env0.in1 b r h) fun r s' hq => ?_)
  cases r with
  | error er => exact hq.elim
  | ok fl =>
    cases fl with
    | ret u => exact I.after hq
    | next => exact False.elim hq
    | brk => exact False.elim hq
    | cont => exact False.elim hq
theorem op_neO (hn : NeC X.K C) (hmt : Meth X.K C "__eq__" f) (Fk : FnOk X.prog X.w X.K X.mg X.base CX0 k f fd ps sp) (hr : Room (k + 1) X.A) (hb : Binds X.K fd ps []) (hu : X.A.units + 1 < cLine) : OpR X (compareOp .NotEq) (rEqO X.K C sp true) := by
  intro pins s σ H x y v u Q I rx ry h
  obtain ⟨a, dx, fs, rfl, eH, ty, h⟩ := h
  obtain rfl : v = .ref a := rx
  obtain ⟨mA, O, _⟩ := ins_get I.hok eH
  obtain ⟨od, J, _⟩ := O.look
  obtain ⟨tb, lt, nf⟩ := ty.looks I ry
  have KX := I.kIn
  have inst : PySem.W.Looks (model X.prog X.w) s.heap (isInstance (.ref a) (.type "object")) true := J.type.andThen (PySem.W.looks_subIn KX hn.ob)
  have body : wpAny (model X.prog X.w) X.A.in1 (Builtin.«object.__ne__» ⟨[.ref a, u], []⟩) (fun fin s' => ∃ b, fin = .done (.ret (.bool b)) ∧ EP X pins σ Q (.bool b) s') (fun _ _ => False) s := by
    unfold Builtin.«object.__ne__»
    refine wpAny_bind (wpAny_of_eq (a := ((Value.ref a : Value), [u])) (by first | rfl | (simp only [slotArgs]; rfl)) ?_)
    refine wpAny_bind (wpAny_cRoomFor hu ?_)
    refine wpAny_bind (PySem.W.ifBound_K KX J hmt.at_ hmt.fn (wpAny_mono (run_in1 (us := [.ref a, u]) (vs := [.ref a, y]) (E' := fun _ _ => False) Fk hr hb I (.cons rfl (.cons ry .nil)) h) (fun w s' z => ?_) fun _ _ z => z))
    obtain ⟨v, H', I', rv, b, eb, q⟩ := z
    subst eb
    cases rv
    show wpAny _ _ (truthy (.bool b) >>= fun r => ret (.bool (!r))) _ _ _
    refine wpAny_bind (wpAny_of_eq (a := b) rfl ?_)
    exact wpAny_pure ⟨!b, rfl, .bl (!b), H', I', rfl, by
      have e : (b != true) = !b := by cases b <;> rfl
      rw [e] at q; exact q⟩
  have one : wpAny (model X.prog X.w) X.A (tryCompare (.ref a) "__ne__" u) (fun r s' => ∃ b, r = some (.bool b) ∧ EP X pins σ Q (.bool b) s') X.xe s := by
    unfold tryCompare
    refine wpAny_bind ?_
    simp only [callSpecialIfBound?, bindSpecialIfBound?]
    refine wpAny_holding (wpAny_bind (wpAny_bind (wpAny_bind (J.type.here ((PySem.W.looks_findIn KX hn.ne).here ?_)))))
    refine wpAny_bind (wpAny_askSetting (wpAny_ite ?_))
    have fin : wpAny (model X.prog X.w) X.A (call (.builtin "object.__ne__") ([.ref a] ++ [u]) >>= fun v => pure (some v)) (fun r s' => wpAny (model X.prog X.w) X.A (match r with | some .notImplemented => pure none | none => pure none | some v => pure (some v) : Sem (Option Value)) (fun r s' => ∃ b, r = some (.bool b) ∧ EP X pins σ Q (.bool b) s') X.xe s') X.xe s := by
      refine wpAny_bind (wpAny_call (codeAny_call_builtin F.cmp_object.ne.plain F.cmpEntry_ne (PySem.W.check_slot F.cmpKind_ne F.cmpSplit_ne inst (F.cmpArgs_ne _ _) (wpAny_mono body (fun fi s' z => ?_) fun _ _ z => z.elim))))
      obtain ⟨b, rfl, q⟩ := z
      exact wpAny_pure (wpAny_pure ⟨b, rfl, q⟩)
    split
    · exact wpAny_bind (wpAny_of_eq (F.cmp_object.ne.bind _) (wpAny_pure (by exact fin)))
    · exact wpAny_tryCatch (wpAny_bind (wpAny_of_eq (F.cmp_object.ne.bind _) (wpAny_pure (by exact fin))))
  show wpAny _ _ (richCompare .NotEq (.ref a) u) _ _ _
  unfold richCompare
  simp only [oneThing_ref]
  refine wpAny_holding (wpAny_bind (wpAny_cRoomFor (by omega) ?_))
  refine wpAny_bind (J.type.here (wpAny_bind (lt.here ?_)))
  have fin2 : wpAny (model X.prog X.w) X.A (tryCompare (.ref a) (cmpInfo .NotEq).2.1 u) (fun r s' => ∃ b, r = some (.bool b) ∧ EP X pins σ Q (.bool b) s') X.xe s := one
  split
  · rename_i q
    have e : PySem.W.subIn X.K tb (.ref C) = some false := by
      rcases Bool.or_eq_true_iff.mp nf with e | e
      · rw [beq_iff_eq.mp e] at q; simp at q
      · exact beq_iff_eq.mp e
    refine wpAny_bind ((PySem.W.looks_subIn KX e).here ?_)
    simp only [Bool.false_eq_true, if_false]
    refine wpAny_bind (wpAny_mono fin2 (fun r s' z => ?_) fun _ _ e => e)
    obtain ⟨v, rfl, hq⟩ := z
    exact wpAny_pure hq
  · refine wpAny_bind (wpAny_pure ?_)
    simp only [Bool.false_eq_true, if_false]
    refine wpAny_bind (wpAny_mono fin2 (fun r s' z => ?_) fun _ _ e => e)
    obtain ⟨v, rfl, hq⟩ := z
    exact wpAny_pure hq
end
end Y

/-! Y28: ==, !=, repr, len, calls, & and | of instances at the layer; keywords of raising defs. -/
namespace Y
open PySem PySem.Spec PyProof.Rows L2
/-! ### == and != -/
def tyOk (c : Nat) (st : List Cell) : W → Bool
  | .p .non => true
  | .p (.bl _) => true
  | .p (.int _) => true
  | .p (.str _) => true
  | .p (.tup _) => true
  | .p (.lst _) => true
  | .p (.scr _) => true
  | .p (.obj d _) => decide (d = c)
  | .r i => (match st[i]? with
    | some (.lst _) => true
    | some (.ins d _) => decide (d = c)
    | _ => false)
  | _ => false
def asB (neg : Bool) : Res W → Res W
  | .ok (.p (.bl k)) st => .ok (.p (.bl (k != neg))) st
  | _ => .no
def vEqO (c : Nat) (F : FM) (neg : Bool) (x y : W) (st : List Cell) : Res W := if clsOf st x = some c ∧ tyOk c st y = true then asB neg (callF F [x, y] st) else .no
section
variable {K : PySem.W.Frag} {cl : Cls} {X : Cx} {Wx : WX} {E0 : En} {ρ ρ' : List Addr} {G G' : Hp} {σ : Sg} {τ : L2.St} {st : List Cell} {H : Hp} {D : Ends}
theorem tyOk_ok {c : Nat} {C : Addr} {ns : List Str} (R : (bs K cl E0).Rel ρ G st H) {w : W} {v : V} (r : RW K cl ρ G w v) (hC : cl[c]? = some (C, ns)) (h : tyOk c st w = true) : TyK K C H v := by
  cases w with
  | p x =>
    cases x with
    | non => cases r; exact .non
    | bl b => cases r; exact .bl b
    | int i => cases r; exact .int i
    | str z => cases r; exact .str z
    | tup l => cases r with | tup h _ => exact .tup (R.sub.sqT h)
    | lst l => cases r with | lst h _ => exact .lst (.inl (.inl (R.sub _ _ h)))
    | scr l => cases r with | scr h => exact .lst (R.sub.sqL h)
    | obj d l =>
      have hd : d = c := of_decide_eq_true h
      subst hd
      cases r with
      | obj h1 h2 h3 h4 =>
        rw [hC] at h1
        cases h1
        exact .own (R.sub _ _ h2)
    | dk _ _ => cases h
    | exn _ _ => cases h
  | r i =>
    obtain ⟨a, ha, rfl⟩ := r
    unfold tyOk at h
    dsimp only at h
    split at h
    · rename_i l el
      obtain ⟨b, hb, ⟨vs, h1, h2⟩, _⟩ := R.at el
      cases Option.some.inj (ha.symm.trans hb)
      exact .lst (.inl (.inl h1))
    · rename_i d l el
      have hd : d = c := of_decide_eq_true h
      subst hd
      obtain ⟨b, hb, ⟨C', dx, ns', vs, h0, h1, h2⟩, _⟩ := R.at el
      cases Option.some.inj (ha.symm.trans hb)
      rw [hC] at h0
      cases h0
      exact .own h1
    · cases h
theorem asB_ok {neg : Bool} {R : Res W} {Q : VK} {Z Z' : ZX} {U : List Addr → Hp → W → V → Prop} (h : Aft (bs K cl E0) (bs K cl E0).RW ρ G (asB neg R) Q Z) : Aft (bs K cl E0) (bs K cl E0).RW ρ G R (fun v H' => ∃ k, v = .bl k ∧ Q (.bl (k != neg)) H') Z' := by
  unfold asB at h
  split at h
  · rename_i k st1
    intro ρ' G' H' b p s R' u
    cases u
    exact ⟨k, rfl, h ρ' G' H' _ p s R' (RP.bl _)⟩
  · exact h.elim
theorem vEqO_ok {c : Nat} {C : Addr} {ns : List Str} {F : FM} {neg : Bool} (hC : cl[c]? = some (C, ns)) : VOp K cl (vEqO c F neg) (rEqO K C (spF K cl F) neg) := by
  intro E0 ρ G st H x y v u Q Z R rx ry h
  unfold vEqO at h
  split at h
  case isFalse => exact h.elim
  rename_i hh
  obtain ⟨a, dx, vs, rfl, hH⟩ := clsOf_ok R rx hh.1 hC
  exact ⟨a, dx, _, rfl, hH, tyOk_ok R ry hC hh.2, callF_ok R (.cons rx (.cons ry .nil)) (asB_ok (U := (bs K cl E0).RW) h)⟩
section
variable {C f : Addr} {ns ps : List Str} {c k : Nat} {F : FM} {a b : EM} {pa pb : Expr} {pos : Pos}
theorem se_eqO (h : Fk X.prog X.w X.K X.mg X.base cl k f ps F) (g : GX K X) (hr : Room k X.A) (hC : cl[c]? = some (C, ns)) (hmt : Meth K C "__eq__" f) (ha : SE K cl X Wx a pa) (hb : SE K cl X Wx b pb) (hm : behindInMarks .Eq pb = false := by rfl) : SE K cl X Wx (mBin (vEqO c F false) a b) (.Compare pa [.Eq] [pb] pos) := by
  obtain ⟨hK, hc, hN, hu, hh⟩ := g
  subst hK
  obtain ⟨fd, h1, h2⟩ := h.ex
  exact se_cmp (op_eqO hmt h1 hr h2 (by omega)) hm (vEqO_ok hC) ha hb
theorem st_eqO (h : Fk X.prog X.w X.K X.mg X.base cl k f ps F) (g : GX K X) (hr : Room k X.A) (hC : cl[c]? = some (C, ns)) (hmt : Meth K C "__eq__" f) (ha : SE K cl X Wx a pa) (hb : SE K cl X Wx b pb) (hm : behindInMarks .Eq pb = false := by rfl) : ST K cl X Wx (mTst (mBin (vEqO c F false) a b)) (.Compare pa [.Eq] [pb] pos) := by
  obtain ⟨hK, hc, hN, hu, hh⟩ := g
  subst hK
  obtain ⟨fd, h1, h2⟩ := h.ex
  exact st_cmp (op_eqO hmt h1 hr h2 (by omega)) hm (vEqO_ok hC) ha hb
theorem se_neO (h : Fk X.prog X.w X.K X.mg X.base cl k f ps F) (nc : NeC K C) (g : GX K X) (hr : Room (k + 1) X.A) (hC : cl[c]? = some (C, ns)) (hmt : Meth K C "__eq__" f) (ha : SE K cl X Wx a pa) (hb : SE K cl X Wx b pb) (hm : behindInMarks .NotEq pb = false := by rfl) : SE K cl X Wx (mBin (vEqO c F true) a b) (.Compare pa [.NotEq] [pb] pos) := by
  obtain ⟨hK, hc, hN, hu, hh⟩ := g
  subst hK
  obtain ⟨fd, h1, h2⟩ := h.ex
  exact se_cmp (op_neO nc hmt h1 hr h2 (by omega)) hm (vEqO_ok hC) ha hb
theorem st_neO (h : Fk X.prog X.w X.K X.mg X.base cl k f ps F) (nc : NeC K C) (g : GX K X) (hr : Room (k + 1) X.A) (hC : cl[c]? = some (C, ns)) (hmt : Meth K C "__eq__" f) (ha : SE K cl X Wx a pa) (hb : SE K cl X Wx b pb) (hm : behindInMarks .NotEq pb = false := by rfl) : ST K cl X Wx (mTst (mBin (vEqO c F true) a b)) (.Compare pa [.NotEq] [pb] pos) := by
  obtain ⟨hK, hc, hN, hu, hh⟩ := g
  subst hK
  obtain ⟨fd, h1, h2⟩ := h.ex
  exact st_cmp (op_neO nc hmt h1 hr h2 (by omega)) hm (vEqO_ok hC) ha hb
end
/-! ### repr, len -/
def rOwn1 (C : Addr) (sp : Sp) (T : V → Prop) : List V → Hp → VK → Prop := fun xs H Q => ∃ a dx fs, xs = [.ref a] ∧ H a = some (.ins C dx fs) ∧ sp [.ref a] H (fun v H' => T v ∧ Q v H') L2.E0
section
variable {C f : Addr} {fd : FuncData} {ps : List Str} {sp : Sp} {k : Nat}
theorem call_reprO (hmt : Meth X.K C "__repr__" f) (Fk : FnOk X.prog X.w X.K X.mg X.base CX0 k f fd ps sp) (hr : Room (k + 1) X.A) (hb : L2.Binds X.K fd ps []) (hu : X.A.units + 1 < cLine) : CallR X (.builtin "repr") (rOwn1 C sp fun v => ∃ z, v = .str z) := by
  intro pins s σ H xs us Q I r h
  obtain ⟨a, dx, fs, rfl, eH, h⟩ := h
  obtain rfl : us = [.ref a] := by
    cases r with
    | cons r1 r2 =>
      cases r2
      have r1 : _ = Value.ref a := r1
      rw [r1]
  obtain ⟨mA, O, _⟩ := ins_get I.hok eH
  obtain ⟨od, J, _⟩ := O.look
  obtain ⟨m, hF⟩ := I.fr
  refine PySem.W.repr_K hu hF I.ok.mod.kin J hmt.at_ hmt.fn ?_
  refine wpAny_mono (run_in1 (us := [.ref a]) (vs := [.ref a]) (E' := X.xe) Fk hr hb I (.cons rfl .nil) h) (fun w s' z => ?_) fun _ _ z => z
  obtain ⟨v, H', I', rv, ⟨z, ez⟩, q⟩ := z
  subst ez
  obtain ⟨t, rfl⟩ := rv
  exact ⟨.str z, H', I', ⟨t, rfl⟩, q⟩
theorem call_lenO (hmt : Meth X.K C "__len__" f) (Fk : FnOk X.prog X.w X.K X.mg X.base CX0 k f fd ps sp) (hr : Room (k + 1) X.A) (hb : L2.Binds X.K fd ps []) : CallR X (.builtin "len") (rOwn1 C sp fun v => ∃ n : Nat, n < 2 ^ 63 ∧ v = .int n) := by
  intro pins s σ H xs us Q I r h
  obtain ⟨a, dx, fs, rfl, eH, h⟩ := h
  obtain rfl : us = [.ref a] := by
    cases r with
    | cons r1 r2 =>
      cases r2
      have r1 : _ = Value.ref a := r1
      rw [r1]
  obtain ⟨mA, O, _⟩ := ins_get I.hok eH
  obtain ⟨od, J, _⟩ := O.look
  obtain ⟨m, hF⟩ := I.fr
  refine PySem.W.len_K hF I.ok.mod.kin J hmt.at_ hmt.fn ?_
  refine wpAny_mono (run_in1 (us := [.ref a]) (vs := [.ref a]) (E' := X.xe) Fk hr hb I (.cons rfl .nil) h) (fun w s' z => ?_) fun _ _ z => z
  obtain ⟨v, H', I', rv, ⟨n, hn, ez⟩, q⟩ := z
  subst ez
  obtain ⟨t, rfl⟩ := rv
  exact ⟨⟨by omega, by omega⟩, .int n, H', I'.tok _, ⟨_, rfl⟩, q⟩
end
def isStrR : Res W → Res W
  | .ok (.p (.str z)) st => .ok (.p (.str z)) st
  | _ => .no
def isLenR : Res W → Res W
  | .ok (.p (.int i)) st => if 0 ≤ i ∧ i ≤ 1000000 then .ok (.p (.int i)) st else .no
  | _ => .no
def vReprO (c : Nat) (F : FM) (ws : List W) (st : List Cell) : Res W := match ws with
  | [w] => if clsOf st w = some c then isStrR (callF F [w] st) else .no
  | _ => .no
def vLenO (c : Nat) (F : FM) (ws : List W) (st : List Cell) : Res W := match ws with
  | [w] => if clsOf st w = some c then isLenR (callF F [w] st) else .no
  | _ => .no
theorem vReprO_ok {c : Nat} {C : Addr} {ns : List Str} {F : FM} (hC : cl[c]? = some (C, ns)) : VCall K cl (vReprO c F) (rOwn1 C (spF K cl F) fun v => ∃ z, v = .str z) := by
  intro E0 ρ G st H ws vs Q Z R rs h
  unfold vReprO at h
  split at h
  case h_2 => exact h.elim
  rename_i w
  split at h
  case isFalse => exact h.elim
  rename_i hh
  obtain ⟨v, rfl, rv⟩ := rs.one
  obtain ⟨a, dx, us, rfl, hH⟩ := clsOf_ok R rv hh hC
  refine ⟨a, dx, _, rfl, hH, callF_ok R (.cons rv .nil) (ws := [w]) (vs := [.ref a]) ?_⟩
  unfold isStrR at h
  split at h
  · rename_i z st1 e
    rw [e]
    intro ρ' G' H' b p s R' u
    cases u
    exact ⟨⟨z, rfl⟩, h ρ' G' H' _ p s R' (RP.str _)⟩
  · exact h.elim
theorem vLenO_ok {c : Nat} {C : Addr} {ns : List Str} {F : FM} (hC : cl[c]? = some (C, ns)) : VCall K cl (vLenO c F) (rOwn1 C (spF K cl F) fun v => ∃ n : Nat, n < 2 ^ 63 ∧ v = .int n) := by
  intro E0 ρ G st H ws vs Q Z R rs h
  unfold vLenO at h
  split at h
  case h_2 => exact h.elim
  rename_i w
  split at h
  case isFalse => exact h.elim
  rename_i hh
  obtain ⟨v, rfl, rv⟩ := rs.one
  obtain ⟨a, dx, us, rfl, hH⟩ := clsOf_ok R rv hh hC
  refine ⟨a, dx, _, rfl, hH, callF_ok R (.cons rv .nil) (ws := [w]) (vs := [.ref a]) ?_⟩
  unfold isLenR at h
  split at h
  · rename_i i st1 e
    rw [e]
    split at h
    case isFalse => exact h.elim
    rename_i hi
    intro ρ' G' H' b p s R' u
    cases u
    exact ⟨⟨i.toNat, by omega, by rw [Int.toNat_of_nonneg hi.1]⟩, h ρ' G' H' _ p s R' (RP.int _)⟩
  · exact h.elim
section
variable {C f : Addr} {ns ps : List Str} {c k : Nat} {F : FM} {a : EM} {pa : Expr} {p pos : Pos}
theorem se_reprO (h : Fk X.prog X.w X.K X.mg X.base cl k f ps F) (g : GX K X) (hr : Room (k + 1) X.A) (hC : cl[c]? = some (C, ns)) (hmt : Meth K C "__repr__" f) (hg : Gl X "repr") (hm : X.mg "repr" = none) (ha : SE K cl X Wx a pa)
    (he : starEach [pa] X.env = (false, eval pa X.env) :: starEach [] X.env := by rfl) (hpl : (backTo pos (starEach [] X.env)).any (·.1) = false := by rfl) : SE K cl X Wx (mCallV (vReprO c F) (mCons a mNil)) (.Call (.Name "repr" p) [pa] [] pos) := by
  obtain ⟨hK, hc, hN, hu, hh⟩ := g
  subst hK
  obtain ⟨fd, h1, h2⟩ := h.ex
  exact se_callB (call_reprO hmt h1 hr h2 (by omega)) (vReprO_ok hC) hg hm rfl (sa_cons ha sa_nil he) (by decide) (by decide +kernel) he hpl
theorem se_lenO (h : Fk X.prog X.w X.K X.mg X.base cl k f ps F) (g : GX K X) (hr : Room (k + 1) X.A) (hC : cl[c]? = some (C, ns)) (hmt : Meth K C "__len__" f) (hg : Gl X "len") (hm : X.mg "len" = none) (ha : SE K cl X Wx a pa)
    (he : starEach [pa] X.env = (false, eval pa X.env) :: starEach [] X.env := by rfl) (hpl : (backTo pos (starEach [] X.env)).any (·.1) = false := by rfl) : SE K cl X Wx (mCallV (vLenO c F) (mCons a mNil)) (.Call (.Name "len" p) [pa] [] pos) := by
  obtain ⟨hK, hc, hN, hu, hh⟩ := g
  subst hK
  obtain ⟨fd, h1, h2⟩ := h.ex
  exact se_callB (call_lenO hmt h1 hr h2) (vLenO_ok hC) hg hm rfl (sa_cons ha sa_nil he) (by decide) (by decide +kernel) he hpl
end
end
end Y

/-! Y29: calls of instances, & and |, constants of classes, keywords of raising defs. -/
namespace Y
open PySem PySem.Spec PyProof.Rows L2
/-! ### raising defs as defs that do not raise -/
def noxF (F : FM) : FM := fun ws st => (F ws st).nox
theorem fn_nox {P : Program} {w : World} {K : PySem.W.Frag} {mg : Str → Option Value} {base : Heap} {cl : Cls} {k : Nat} {f : Addr} {fd : FuncData} {ps : List Str} {F : FM} (h : FnOk P w K mg base (L2.CX P w) k f fd ps (spF K cl F)) : FnOk P w K mg base CX0 k f fd ps (spF K cl (noxF F)) := by
  have cut : ∀ vs H Q E, spF K cl (noxF F) vs H Q E → spF K cl F vs H Q (fun _ _ _ => False) := fun vs H Q E ⟨ρ0, G0, st0, ws, R, r, a⟩ => ⟨ρ0, G0, st0, ws, R, r, Aft.noxZ (B := ⟨K, cl, ⟨strip H, ρ0.length, G0⟩⟩) (Z := E) a⟩
  refine ⟨fun vs H Q E q => h.len _ _ _ _ (cut vs H Q E q), fun A outer s H args us vs Q E hr he hb hv q => ?_⟩
  refine codeAny_mono (h.run A outer s H args us vs Q (fun _ _ _ => False) hr he hb hv (cut vs H Q E q)) fun r s' hq => ?_
  cases r with
  | error e =>
    obtain ⟨_, _, _, _, _, _, _, _, _, _, _, _, z⟩ := hq
    exact z.elim
  | ok fl =>
    cases fl with
    | ret u => exact hq
    | next => exact hq
    | brk => exact hq
    | cont => exact hq
theorem Xk.fk {P : Program} {w : World} {K : PySem.W.Frag} {mg : Str → Option Value} {base : Heap} {cl : Cls} {k : Nat} {f : Addr} {ps : List Str} {F : FM} (h : Xk P w K mg base cl k f ps F) : Fk P w K mg base cl k f ps (noxF F) := by
  obtain ⟨⟨fd, h1, h2⟩, h3⟩ := h
  exact ⟨⟨fd, fn_nox h1, h2⟩, h3⟩
structure Xk2 (Wk : FuncData → Prop) (P : Program) (w : World) (K : PySem.W.Frag) (mg : Str → Option Value) (base : Heap) (cl : Cls) (k : Nat) (f : Addr) (ps : List Str) (F : FM) : Prop where
  ex : ∃ fd, FnOk P w K mg base (L2.CX P w) k f fd ps (spF K cl F) ∧ L2.Binds K fd ps [] ∧ Wk fd
  kp : PySem.W.keepIn K (.ref f) = true
section
variable {K : PySem.W.Frag} {cl : Cls} {Wk : FuncData → Prop} {P : Program} {w : World} {mg : Str → Option Value} {base : Heap} {k : Nat} {f : Addr} {ps : List Str} {F : FM}
theorem Xk2.xk (h : Xk2 Wk P w K mg base cl k f ps F) : Xk P w K mg base cl k f ps F := ⟨by obtain ⟨fd, h1, h2, _⟩ := h.ex; exact ⟨fd, h1, h2⟩, h.kp⟩
theorem Xk2.fk2 (h : Xk2 Wk P w K mg base cl k f ps F) : Fk2 Wk P w K mg base cl k f ps (noxF F) := ⟨by obtain ⟨fd, h1, h2, h3⟩ := h.ex; exact ⟨fd, fn_nox h1, h2, h3⟩, h.kp⟩
theorem Xk2.of {N : List Str} {x qual : Str} {params : Arguments} {body : List Stmt} {scope : Scope} {m : SMm}
    (F : ∃ fd, FunD K x qual params body scope [] [] f fd) (S : FnScope N ps scope) (bd : ∀ (kV doc pm : Value) (an : Option Addr) (cdv ct : Value) (us : List Value), us.length = ps.length → bindArgs (PySem.W.fnOf x qual params body scope .none kV doc pm an cdv ct) ⟨us, []⟩ = pure (ps.zip us))
    (hw : ∀ fd, FunD K x qual params body scope [] [] f fd → Wk fd)
    (hb : ∀ (cd : Value) (A : Around) (outer : List Env) (s : Shared) (H : Hp) (E : XK), GX K (cxE P w K mg base N qual scope f cd A outer s H E) → Takes (cxE P w K mg base N qual scope f cd A outer s H E) (WE E) → Room k (A.deeper (envOfC qual scope s.heap.objs.size f cd)) → SSs K cl (cxE P w K mg base N qual scope f cd A outer s H E) (WE E) m body) :
    Xk2 Wk P w K mg base cl (k + 1) f ps (runX ps.length N.length m) := by
  obtain ⟨fd, F⟩ := F
  exact ⟨⟨fd, fn_okX F S fun cd A outer s H E hr => hb cd A outer s H E (gx_ofE S hr) tk_ofE hr, F.bindsN bd, hw fd F⟩, F.kp⟩
end
/-! ### q(x), q an instance, q and x names -/
section
variable {X : Cx}
theorem name_at {pins : List (Addr × Obj)} {σ : L2.St} {H : Hp} {s : Shared} {i : Nat} {x : Str} {pos : Pos} {v : V} {Q : Value → Shared → Prop} (I : Inv X pins σ H s) (hN : X.N[i]? = some x) (e : σ[i]? = some (some v)) (hv : Vis X.env.scope x) (hd : (x == ("__debug__" : Str)) = false) (hcd : (x == ("__classdict__" : Str)) = false)
    (h : ∀ u, RelV v u → Q u s) : wpAny (model X.prog X.w) X.A (eval (.Name x pos) X.env) Q X.xe s := by
  obtain ⟨m, hn, hl⟩ := I.loc
  obtain ⟨u, r, l⟩ := hl i x v hN e hv
  rcases l with ⟨hk, hm⟩ | ⟨hk, c, hc, hcell⟩
  · exact wpAny_Name (wpAny_loadName_local I.ok.kind hk hn hm (h u r)) hd
  · rcases hk with hk | hk
    · exact wpAny_Name (wpAny_loadName_cell I.ok.kind hk hc hcell (h u r)) hd
    · exact wpAny_Name (wpAny_loadName_free I.ok.kind hk hc hcell (h u r) hcd) hd
/-- what of a class makes its instances callable -/
structure CallC (K : PySem.W.Frag) (C f : Addr) : Prop where
  mt : Meth K C "__call__" f
  fi : PySem.W.fnIn K f = true
theorem pe_callO {CX : CXT} {E : XK} {i j k : Nat} {f C : Addr} {fd : FuncData} {ps : List Str} {sp : Sp} {x y : Str} {p1 p2 pos : Pos} (c : CallC X.K C f) (F : FnOk X.prog X.w X.K X.mg X.base CX k f fd ps sp) (hr : Room k X.A) (hb : L2.Binds X.K fd ps []) (hx : Passes CX X E)
    (hN : X.N[i]? = some x) (hv : Vis X.env.scope x) (hd : (x == ("__debug__" : Str)) = false) (hcd : (x == ("__classdict__" : Str)) = false)
    (hN2 : X.N[j]? = some y) (hv2 : Vis X.env.scope y) (hd2 : (y == ("__debug__" : Str)) = false) (hcd2 : (y == ("__classdict__" : Str)) = false) :
    PE X (.Call (.Name x p1) [.Name y p2] [] pos) (fun σ H Q => ∃ a dx fs v, σ[i]? = some (some (.ref a)) ∧ H a = some (.ins C dx fs) ∧ σ[j]? = some (some v) ∧ sp [.ref a, v] H Q E) := by
  refine ⟨fun pins s σ H Q I h => ?_⟩
  obtain ⟨a, dx, fs, v, e1, eH, e2, hsp⟩ := h
  obtain ⟨mA, O, _⟩ := ins_get I.hok eH
  obtain ⟨od, J, _⟩ := O.look
  refine wpAny_Call_Name_kw (name_at I hN e1 hv hd hcd fun u r => ?_)
  obtain rfl : u = Value.ref a := r
  refine PySem.W.kco_callWith I.kIn J rfl c.mt.at_ (Calls.spliced_cons (name_at I hN2 e2 hv2 hd2 hcd2 fun u2 r2 => Calls.spliced_nil ⟨⟨I.kIn, J⟩, ?_⟩)) rfl rfl
  have b := hb s [.ref a, u2] I.kIn (by rw [List.append_nil, ← F.len _ _ _ _ hsp]; rfl)
  rw [List.append_nil] at b
  refine wpAny_call (PySem.W.kco_code I.kIn J rfl c.mt.at_ c.mt.fn c.fi (codeAny_mono (F.run X.A X.stack s H ⟨[.ref a, u2], []⟩ [.ref a, u2] [.ref a, v] Q E hr I.env0 b (.cons rfl (.cons r2 .nil)) hsp) fun r s' hq => ?_))
  cases r with
  | error e => exact hx pins σ H s e s' I hq
  | ok fl =>
    cases fl with
    | ret u => exact I.after hq
    | next => exact False.elim hq
    | brk => exact False.elim hq
    | cont => exact False.elim hq
end
def mCallO (c : Nat) (F : FM) (i j : Nat) : EM := fun σ st => match σ[i]?, σ[j]? with
  | some (some x), some (some y) => if clsOf st x = some c then callF F [x, y] st else .no
  | _, _ => .no
section
variable {K : PySem.W.Frag} {cl : Cls} {X : Cx} {Wx : WX}
theorem callOK {i j k c : Nat} {f C : Addr} {ps ns : List Str} {F : FM} {x y : Str} {p1 p2 pos : Pos} (h : Xk X.prog X.w X.K X.mg X.base cl k f ps F) (cc : CallC K C f) (g : GX K X) (tk : Takes X Wx) (wi : WI Wx) (hr : Room k X.A) (hC : cl[c]? = some (C, ns))
    (hN : X.N[i]? = some x) (hv : Vis X.env.scope x) (hd : (x == ("__debug__" : Str)) = false) (hcd : (x == ("__classdict__" : Str)) = false)
    (hN2 : X.N[j]? = some y) (hv2 : Vis X.env.scope y) (hd2 : (y == ("__debug__" : Str)) = false) (hcd2 : (y == ("__classdict__" : Str)) = false) :
    SE K cl X Wx (mCallO c F i j) (.Call (.Name x p1) [.Name y p2] [] pos) := by
  obtain ⟨hK, _⟩ := g
  subst hK
  obtain ⟨fd, h1, h2⟩ := h.ex
  refine ⟨fun E0 ρ G σ st τ H Q R S q => T.of (pe_callO (E := fun c d H' => Wx c d τ H') cc h1 hr h2 (passes_call tk fun c d σ H z => wi c d τ σ H z) hN hv hd hcd hN2 hv2 hd2 hcd2) ?_⟩
  unfold mCallO at q
  split at q
  case h_2 => exact q.elim
  rename_i wx wy ex ey
  split at q
  case isFalse => exact q.elim
  rename_i ec
  obtain ⟨vx, e1, r1⟩ := S.2 i wx ex
  obtain ⟨vy, e2, r2⟩ := S.2 j wy ey
  obtain ⟨b, dx, vs, rfl, hH⟩ := clsOf_ok R r1 ec hC
  exact ⟨b, dx, _, vy, e1, hH, e2, callF_ok R (.cons r1 (.cons r2 .nil)) q⟩
end
/-! ### x & y, x | y -/
def rBinO (C : Addr) (sp : Sp) (E : XK) : R2 := fun x y H Q => ∃ a dx fs b dy gs, x = .ref a ∧ y = .ref b ∧ H a = some (.ins C dx fs) ∧ H b = some (.ins C dy gs) ∧ sp [x, y] H (fun v H' => (∃ p, v = .ref p) ∧ Q v H') E
section
variable {X : Cx} {C f : Addr} {fd : FuncData} {ps : List Str} {sp : Sp} {k : Nat} {op : Operator} {CX : CXT} {E : XK}
theorem op_binO (hm : PySem.W.findIn X.K (.ref C) (PySem.dunder op.info.2) = some (some (.ref f))) (hfn : PySem.W.isFn X.K (.ref f) = true) (sf : PySem.W.selfFirst X.K C = true) (F : FnOk X.prog X.w X.K X.mg X.base CX k f fd ps sp) (hr : Room k X.A) (hb : L2.Binds X.K fd ps []) (hx : Passes CX X E) : OpR X (binaryOp op) (rBinO C sp E) := by
  intro pins s σ H x y v u Q I rx ry h
  obtain ⟨a, dx, fs, b, dy, gs, rfl, rfl, eH, eH2, h⟩ := h
  obtain rfl : v = .ref a := rx
  obtain rfl : u = .ref b := ry
  obtain ⟨mA, O, _⟩ := ins_get I.hok eH
  obtain ⟨od, J, _⟩ := O.look
  obtain ⟨mB, O2, _⟩ := ins_get I.hok eH2
  obtain ⟨od2, J2, _⟩ := O2.look
  obtain ⟨m, hF⟩ := I.fr
  refine PySem.W.binop_K hF I.ok.mod.kin J J2.type sf hm hfn ?_
  refine wpAny_mono (run_fn (us := [.ref a, .ref b]) (vs := [.ref a, .ref b]) F hr hb .nil hx I (.cons rfl (.cons rfl .nil)) h) (fun w s' z => ?_) fun _ _ z => z
  obtain ⟨v, H', I', rv, ⟨p, ep⟩, q⟩ := z
  subst ep
  obtain rfl : w = .ref p := rv
  exact ⟨.ref p, H', I', rfl, q⟩
end
def isObjR : Res W → Res W
  | .ok (.p (.obj c l)) st => .ok (.p (.obj c l)) st
  | .exc x st => .exc x st
  | _ => .no
def mBinO (c : Nat) (F : FM) (a b : EM) : EM := fun σ st => (a σ st).bind fun x st1 => (b σ st1).bind fun y st2 => if clsOf st2 x = some c ∧ clsOf st2 y = some c then isObjR (callF F [x, y] st2) else .no
section
variable {K : PySem.W.Frag} {cl : Cls} {X : Cx} {Wx : WX}
theorem binOK {c k : Nat} {f C : Addr} {ps ns : List Str} {F : FM} {op : Operator} {a b : EM} {pa pb : Expr} {pos : Pos} (h : Xk X.prog X.w X.K X.mg X.base cl k f ps F) (hm : PySem.W.findIn K (.ref C) (PySem.dunder op.info.2) = some (some (.ref f))) (hfn : PySem.W.isFn K (.ref f) = true) (sf : PySem.W.selfFirst K C = true)
    (g : GX K X) (tk : Takes X Wx) (wi : WI Wx) (hr : Room k X.A) (hC : cl[c]? = some (C, ns)) (ha : SE K cl X Wx a pa) (hb : SE K cl X Wx b pb) : SE K cl X Wx (mBinO c F a b) (.BinOp pa op pb pos) := by
  obtain ⟨hK, _⟩ := g
  subst hK
  obtain ⟨fd, h1, h2⟩ := h.ex
  refine ⟨fun E0 ρ G σ st τ H Q R S q => T.of (pe_op (op_binO (E := fun c d H' => Wx c d τ H') hm hfn sf h1 hr h2 (passes_call tk fun c d σ H z => wi c d τ σ H z)) T.pe T.pe) ?_⟩
  refine ha.run E0 ρ G σ st τ H _ R S (Aft.seq q fun x st1 ρ1 G1 H1 v e1 p1 s1 R1 u1 h1 => ?_)
  refine hb.run E0 ρ1 G1 σ st1 τ H1 _ R1 (S.mono p1 s1) (Aft.seq h1 fun y st2 ρ2 G2 H2 u e2 p2 s2 R2 u2 h2 => ?_)
  split at h2
  case isFalse => exact h2.elim
  rename_i hh
  have u1' := RW.mono p2 s2 u1
  obtain ⟨b1, dx, vs, rfl, hH⟩ := clsOf_ok R2 u1' hh.1 hC
  obtain ⟨b2, dy, us, rfl, hH2⟩ := clsOf_ok R2 u2 hh.2 hC
  refine ⟨b1, dx, _, b2, dy, _, rfl, rfl, hH, hH2, callF_ok R2 (.cons u1' (.cons u2 .nil)) ?_⟩
  unfold isObjR at h2
  split at h2
  · rename_i c' l st3 e
    rw [e]
    intro ρ' G' H' z p s R' u
    cases u with
    | obj h5 h6 h7 h8 => exact ⟨⟨_, rfl⟩, h2 ρ' G' H' _ p s R' (.obj h5 h6 h7 h8)⟩
  · rename_i x st3 e
    rw [e]
    exact h2
  · exact h2.elim
end
/-! ### constants of classes, read off the class -/
structure CIntC (K : PySem.W.Frag) (C : Addr) (f : Str) (i : Int) : Prop where
  rd : ClX.CRead K C (.type "type")
  at_ : ∃ t, PySem.W.findCls K (.ref C) (.type "type") f = some (.val (.int i t))
def cintB (K : PySem.W.Frag) (C : Addr) (f : Str) (i : Int) : Bool := PySem.W.readsIn K C (.type "type") && He.eqO (PySem.W.specialIn K (.ref C) "__getattribute__") (some (some (.builtin "type.__getattribute__"))) && (match PySem.W.findCls K (.ref C) (.type "type") f with
  | some (.val (.int j _)) => decide (j = i)
  | _ => false)
theorem cintB_ok {K : PySem.W.Frag} {C : Addr} {f : Str} {i : Int} (h : cintB K C f i = true) : CIntC K C f i := by
  unfold cintB at h
  simp only [Bool.and_eq_true] at h
  obtain ⟨⟨h1, h2⟩, h3⟩ := h
  refine ⟨⟨h1, He.eqO_ok h2⟩, ?_⟩
  split at h3
  · rename_i j t e
    rw [of_decide_eq_true h3] at e
    exact ⟨t, e⟩
  · cases h3
theorem se_cint {K : PySem.W.Frag} {cl : Cls} {X : Cx} {Wx : WX} {C : Addr} {x f : Str} {i : Int} {p pos : Pos} (c : CIntC K C f i) (g : GX K X) (hg : Gl X x) (hm : X.mg x = some (.ref C)) (hd : (x == ("__debug__" : Str)) = false) (hb : attributeBase (.Name x p) f X.env (eval (.Name x p) X.env) = eval (.Name x p) X.env) :
    SE K cl X Wx (mC (.int i)) (.Attribute (.Name x p) f pos) := by
  obtain ⟨hK, _⟩ := g
  subst hK
  obtain ⟨t, e⟩ := c.at_
  refine ⟨fun E0 ρ G σ st τ H Q R S q => T.of (ClX.pe_cval (pe_glob (v := .ref C) hg hm rfl hd) hb) ?_⟩
  exact ⟨C, .type "type", .int i, .int i t, rfl, c.rd, ⟨e, ⟨t, rfl⟩⟩, Aft.here q R (RP.int i)⟩
end Y

/-! Y30: isinstance(x, C), C a class of the program. -/
namespace Y
open PySem PySem.Spec PyProof.Rows L2
def isoB (K : PySem.W.Frag) (C : Addr) : Bool := (PySem.W.clsIn K C).isSome && PySem.W.typeIn K (.ref C) == some (.type "type")
theorem kit_own {K : PySem.W.Frag} {C : Addr} {t : String} (h : isoB K C = true) (ht : t ∈ tyNames) : PySem.W.kitOne K (.type t) (.ref C) = some false := by
  unfold isoB at h
  have e1 : (Value.type t == Value.ref C) = false := rfl
  unfold PySem.W.kitOne
  rw [e1, if_neg Bool.false_ne_true]
  unfold PySem.W.kitCls
  dsimp only
  rw [if_pos h]
  simp only [tyNames, List.mem_cons, List.not_mem_nil, or_false] at ht
  rcases ht with rfl | rfl | rfl | rfl | rfl | rfl | rfl <;> rfl
/-- the parts of an instance's type -/
structure InsC (K : PySem.W.Frag) (C : Addr) : Prop where
  cl : L2.Cls K C
  ha : PySem.W.findIn K (.ref C) "__class__" = some (some (.builtin "object.__class__"))
  hn : PySem.W.specialIn K (.builtin "object.__class__") "__get__" = some (some (.builtin "getset_descriptor.__get__"))
  ht : PySem.W.takesIn K (.builtin "object.__class__") = some true
  hm : PySem.W.mroIn K C (.type "object") = some true
def insB (K : PySem.W.Frag) (C : Addr) : Bool := He.eqO (PySem.W.findIn K (.ref C) "__class__") (some (some (.builtin "object.__class__"))) && He.eqO (PySem.W.specialIn K (.builtin "object.__class__") "__get__") (some (some (.builtin "getset_descriptor.__get__"))) &&
  decide (PySem.W.takesIn K (.builtin "object.__class__") = some true) && decide (PySem.W.mroIn K C (.type "object") = some true)
theorem insB_ok {K : PySem.W.Frag} {C : Addr} (c : L2.Cls K C) (h : insB K C = true) : InsC K C := by
  unfold insB at h
  simp only [Bool.and_eq_true, decide_eq_true_eq] at h
  obtain ⟨⟨⟨h1, h2⟩, h3⟩, h4⟩ := h
  exact ⟨c, He.eqO_ok h1, He.eqO_ok h2, h3, h4⟩
def mIsO (c : Nat) (tb : List (Nat × Bool)) (a : EM) : EM := fun σ st => (a σ st).bind fun w st1 => match clsOf st1 w with
  | some d => if d = c then .ok (.p (.bl true)) st1 else (match tb.lookup d with | some b => .ok (.p (.bl b)) st1 | none => .no)
  | none => (match tyName st1 w with | some _ => .ok (.p (.bl false)) st1 | none => .no)
section
variable {K : PySem.W.Frag} {cl : Cls} {X : Cx} {Wx : WX}
theorem isoK {c : Nat} {C : Addr} {ns : List Str} {tb : List (Nat × Bool)} {x : Str} {a : EM} {e : Expr} {p q pos : Pos} (g : GX K X) (hC : cl[c]? = some (C, ns)) (hi : isoB K C = true) (ic : InsC K C) (htb : ∀ q ∈ tb, ∃ C' ns, cl[q.1]? = some (C', ns) ∧ InsC K C' ∧ PySem.W.kitOne K (.ref C') (.ref C) = some q.2)
    (hg : Gl X "isinstance") (hm : X.mg "isinstance" = none) (hgx : Gl X x) (hmx : X.mg x = some (.ref C)) (hdb : (x == ("__debug__" : Str)) = false)
    (ha : SE K cl X Wx a e) (hs : starEach [e, .Name x q] X.env = (false, eval e X.env) :: starEach [.Name x q] X.env := by rfl) (hs2 : starEach [.Name x q] X.env = (false, eval (.Name x q) X.env) :: starEach [] X.env := by rfl) (hpl : (backTo pos (starEach [.Name x q] X.env)).any (·.1) = false := by rfl) :
    SE K cl X Wx (mIsO c tb a) (.Call (.Name "isinstance" p) [e, .Name x q] [] pos) := by
  obtain ⟨hK, _⟩ := g
  subst hK
  refine ⟨fun E0 ρ G σ st τ H Q R S h => T.of (pe_callB call_isi hg hm (by decide +kernel) (pa_cons T.pe (pa_cons (pe_glob (v := .ref C) hgx hmx rfl hdb) pa_nil hs2) hs) (by decide +kernel) (by decide +kernel) hs hpl) ?_⟩
  refine ha.run E0 ρ G σ st τ H _ R S (Aft.seq h fun w st1 ρ1 G1 H1 v e1 p1 s1 R1 u1 h1 => ?_)
  split at h1
  · rename_i d ed
    split at h1
    · rename_i hd
      subst hd
      obtain ⟨b, dx, vs, rfl, hH⟩ := clsOf_ok R1 u1 ed hC
      exact ⟨.ref b, .ref C, _, _, true, rfl, .own C, .base (.ins hH ic.cl ic.ha ic.hn ic.ht ic.hm), (by unfold PySem.W.kitOne; rw [if_pos (by simp)]), h1.here R1 (RP.bl _)⟩
    · split at h1
      · rename_i k ek
        obtain ⟨C', ns', h2, ic2, h3⟩ := htb _ (lookup_memG ek)
        obtain ⟨b, dx, vs, rfl, hH⟩ := clsOf_ok R1 u1 ed h2
        exact ⟨.ref b, .ref C, _, _, k, rfl, .own C, .base (.ins hH ic2.cl ic2.ha ic2.hn ic2.ht ic2.hm), h3, h1.here R1 (RP.bl _)⟩
      · exact h1.elim
  · split at h1
    · rename_i t et
      obtain ⟨t1, t2⟩ := tyName_ok R1 u1 et
      exact ⟨v, .ref C, _, _, false, rfl, .own C, t1, kit_own hi t2, h1.here R1 (RP.bl _)⟩
    · exact h1.elim
end
end Y

/-! Y31: sorted, list(range(..)), counts, dicts as cells. -/
namespace TS
open PySem PyProof.Rows
section
variable {prog : Program} {w : World} {A : Around} {E : Value → Shared → Prop} {s : Shared}
theorem collect_tuple {l : Addr} {vs : List Value} {Q : List Value → Shared → Prop} (hl : IsTup s.heap l vs.toArray)
    (h : Q vs { s with heap := (s.heap.push (seqObj "list" #[] 0)).update s.heap.objs.size (Obj.mapSeq (· ++ vs.toArray)) }) (hsz : vs.length ≤ sizeLine := by size_fits) :
    wpAny (model prog w) A (collect (.ref l)) Q E s := by
  obtain ⟨o, ho, hc, n, hd⟩ := id hl
  unfold collect
  refine wpAny_bind (wpAny_runValue (codeAny_builtin entry_proto_collect' ?_))
  show wpAny _ _ (do again (.builtin "list.__iadd__" ⟨[← newList [], .ref l], []⟩)) _ _ s
  refine wpAny_bind (wpAny_newList (wpAny_pure ⟨Code.quiet_builtin _ (by decide +kernel), codeAny_builtin entry_list_iadd' ?_⟩))
  show wpAny _ _ (Builtin.List.listExtendWith (.ref s.heap.objs.size) (.ref l) (.ref s.heap.objs.size)) _ _ { s with heap := s.heap.push (seqObj "list" #[] 0) }
  unfold Builtin.List.listExtendWith
  have ho' : (s.heap.push (seqObj "list" #[] 0)).get? l = some o := Heap.get?_push_of_some _ ho
  refine wpAny_bind (wpAny_typeOf (T := "tuple") ⟨o, ho', hc⟩ ?_)
  have ht : (Value.type "tuple" == Value.type "tuple") = true := by rfl
  rw [if_pos (by rw [ht]; simp)]
  refine wpAny_bind (listItems_at ho' hd ?_)
  refine wpAny_bind (listItems_at (xs := #[]) (n := 0) (Heap.get?_push_size _ rfl) rfl ?_)
  rw [if_neg (by simp)]
  refine wpAny_bind (listUpdate_at (xs := #[]) (n := 0) (Heap.get?_push_size _ rfl) rfl ?_ (Nat.zero_le _) (by show (#[] ++ vs.toArray).size ≤ sizeLine + 1; simp only [Array.size_append, List.size_toArray, List.length_nil]; omega))
  refine wpAny_pure ?_
  show wpAny (model prog w) A (do
      let o ← load s.heap.objs.size
      match o.data with
      | .seq xs _ => pure xs.toList
      | _ => unsupported "internal:collect") Q E { s with heap := (s.heap.push (seqObj "list" #[] 0)).update s.heap.objs.size (Obj.mapSeq (· ++ vs.toArray)) }
  refine wpAny_bind (wpAny_load (get?_update_seq (Heap.get?_push_size _ rfl) _) ?_)
  show wpAny _ _ (pure ((#[] : Array Value) ++ vs.toArray).toList) Q E _
  rw [show ((#[] : Array Value) ++ vs.toArray).toList = vs by simp]
  exact wpAny_pure h
/-- sorted(xs) of a tuple -/
theorem sorted_tupsT {l : Addr} {vs : List Value} {d : Nat} {B : Int} {Q : Value → Shared → Prop} (hl : IsTup s.heap l vs.toArray) (h64 : vs.length < 64) (hd : 1 ≤ d) (x : TupsOk s.heap d B vs)
    (h : ∀ out : Array Value, out.toList.Perm vs → out.toList.Pairwise (fun u v => code B (intsOf s.heap u) ≤ code B (intsOf s.heap v)) → Q (.ref (s.heap.objs.size + 1)) { s with heap := sortedAll s.heap vs out }) :
    wpAny (model prog w) A (call (.builtin "sorted") [.ref l]) Q E s := by
  refine Calls.call_function_entry kind_sorted plain_sorted entry_sorted (args_sorted1 _) ?_
  unfold Builtin.«sorted»
  refine wpAny_bind (m := checkCount "sorted" 1 1 _) (wpAny_pure ?_)
  refine wpAny_bind (collect_tuple hl ?_ (by rw [sizeLine_eq]; omega))
  refine wpAny_bind (wpAny_newList ?_ (by rw [sizeLine_eq]; omega))
  have hsz : ((s.heap.push (seqObj "list" #[] 0)).update s.heap.objs.size (Obj.mapSeq (· ++ vs.toArray))).objs.size = s.heap.objs.size + 1 := by
    rw [Heap.size_update, size_push']
  have hoL : (((s.heap.push (seqObj "list" #[] 0)).update s.heap.objs.size (Obj.mapSeq (· ++ vs.toArray))).push (seqObj "list" vs.toArray 0)).get? (s.heap.objs.size + 1) = some (seqObj "list" vs.toArray 0) := by
    rw [← hsz]; exact Heap.get?_push_size _ rfl
  have keep : ∀ b o, s.heap.get? b = some o → o.cls = .type "tuple" → (((s.heap.push (seqObj "list" #[] 0)).update s.heap.objs.size (Obj.mapSeq (· ++ vs.toArray))).push (seqObj "list" vs.toArray 0)).get? b = some o := fun b o q _ => by
    have hlt : b < s.heap.objs.size := Heap.lt_size q
    rw [Heap.get?_push_ne _ _ _ (by rw [hsz]; exact Nat.ne_of_lt (Nat.lt_succ_of_lt hlt)), Heap.get?_update_ne _ _ _ _ (Nat.ne_of_lt hlt), Heap.get?_push_ne _ _ _ (Nat.ne_of_lt hlt)]
    exact q
  show wpAny _ _ _ _ _ { s with heap := ((s.heap.push (seqObj "list" #[] 0)).update s.heap.objs.size (Obj.mapSeq (· ++ vs.toArray))).push (seqObj "list" vs.toArray 0) }
  rw [hsz]
  refine wpAny_bind (wpAny_holding (wpAny_call_entry slot_list_sort ⟨_, hoL, rfl⟩ entry_list_sort (sort_tups hoL h64 hd (x.keeps keep) (fun v => code B (intsOf s.heap v)) (fun v hv ns t => ?_) fun out a1 a2 => ⟨_, rfl, ?_⟩) (args_list_sort _)))
  · obtain ⟨ns0, t0, _⟩ := x v hv
    have e : ns = ns0 := t.ints.symm.trans (t0.keeps keep).ints
    rw [e]
    show code B (intsOf s.heap v) = code B ns0
    rw [t0.ints]
  · exact wpAny_pure ⟨_, rfl, h out a1 a2⟩
end
end TS
namespace L2
open PySem PySem.Spec PyProof.Rows
section
variable {X : Cx}
/-- sorted(xs), xs a tuple of fewer than 64 tuples of d ints in [0, B) -/
def rSortV (K : PySem.W.Frag) (d : Nat) (B : Int) : List V → Hp → VK → Prop := fun vs H Q => ∃ (a : Addr) (xs : List V), vs = [V.ref a] ∧ SqT K H a xs ∧ xs.length < 64 ∧ (∀ x ∈ xs, ∃ ns, TupI K H x ns ∧ ns.length = d ∧ TS.Bd B ns) ∧
  ∀ (ys : List V) (p : Addr), ys.Perm xs → ys.Pairwise (fun x y => ∀ n m, TupI K H x n → TupI K H y m → TS.code B n ≤ TS.code B m) → H p = none → Q (.ref p) (upd H p (.lst ys))
theorem cr_sortV {d : Nat} {B : Int} (hd : 1 ≤ d) : CallR X (.builtin "sorted") (rSortV X.K d B) := by
  intro pins s σ H vs us Q I r h
  obtain ⟨a, xs, rfl, hs, h64, hx, q⟩ := h
  obtain ⟨its, rv, hl, hz⟩ := I.tuple hs
  rw [Vals.ref1 r]
  obtain ⟨e1, e2⟩ := bkV_refs rv fun x m => by
    obtain ⟨ns, ⟨t, e, _⟩, _⟩ := hx x m
    exact ⟨t, e⟩
  refine TS.sorted_tupsT (d := d) (B := B) hl (by rw [← rv.length]; exact h64) hd (fun v hv => ?_) fun out h1 h2 => ?_
  · obtain ⟨t, rfl⟩ := e2 v hv
    have hm : V.ref t ∈ xs := by
      rw [e1]
      exact List.mem_map.mpr ⟨_, hv, rfl⟩
    obtain ⟨ns, ⟨t', e, ht⟩, hn, hb⟩ := hx _ hm
    cases e
    exact ⟨ns, tupI_raw I ht, hn, hb⟩
  · obtain ⟨ep, he'⟩ := PyProof.Rows.sortedAll_at s.heap its out
    have h3 : ∀ u ∈ out.toList, ∃ a, u = Value.ref a := fun u hu => e2 u (h1.mem_iff.mp hu)
    have hp : (out.toList.map bkV).Perm xs := by
      rw [e1]
      exact h1.map bkV
    have hlen : (out.toList.map bkV).length ≤ sizeLine := by
      rw [hp.length_eq]
      exact hz
    refine ⟨.ref _, upd H (s.heap.objs.size + 1) (.lst (out.toList.map bkV)), I.laid (t' := s.toks) (fun _ _ => PyProof.Rows.sortedAll_old) (Nat.le_succ _) ⟨hlen, out.toList, ep, bkV_vals h3, he'⟩, rfl, q _ _ hp ?_ (I.hok.fresh (Nat.le_succ _))⟩
    rw [List.pairwise_map]
    refine List.Pairwise.imp (fun {u v} huv n m hn hm => ?_) h2
    obtain ⟨t, et, ht⟩ := hn
    obtain ⟨t', et', ht'⟩ := hm
    have eu := bkV_ref et
    have ev := bkV_ref et'
    have i1 : TS.intsOf s.heap u = n := by
      rw [eu]
      exact (tupI_raw I ht).ints
    have i2 : TS.intsOf s.heap v = m := by
      rw [ev]
      exact (tupI_raw I ht').ints
    rw [← i1, ← i2]
    exact huv
/-- range(n), an object -/
theorem cr_range1 : CallR X (.type "range") (fun vs H Q => ∃ j, vs = [V.int j] ∧ ∀ p, H p = none → Q (.ref p) (upd H p (.rng 0 j))) := by
  intro pins s σ H vs us Q I r h
  obtain ⟨j, rfl, q⟩ := h
  obtain ⟨u1, rfl, rj⟩ := vals1 r
  obtain ⟨u, rfl⟩ := rj
  refine call_range_1 ⟨.ref s.heap.objs.size, upd H s.heap.objs.size (.rng 0 j), I.laid (t' := s.toks + 1 + 1) (fun b o e => Heap.get?_push_of_some _ e) (Nat.le_refl _) ?_, rfl, q _ (I.hok.fresh (Nat.le_refl _))⟩
  exact ⟨s.toks, u, s.toks + 1, Heap.get?_push_size _ rfl⟩
theorem vals_rng : ∀ (acc : List Value) (f : Nat → V), (∀ j v, acc[j]? = some v → RelV (f j) v) → Vals ((List.range acc.length).map f) acc
  | [], f, _ => .nil
  | u :: acc, f, h => by
    rw [List.length_cons, List.range_succ_eq_map, List.map_cons, List.map_map]
    exact .cons (h 0 u rfl) (vals_rng acc (f ∘ Nat.succ) fun j v e => h (j + 1) v (by simpa using e))
/-- list(r), r a range object -/
theorem cr_listRng (hh : X.A.handled = none) : CallR X (.type "list") (fun vs H Q => ∃ (a : Addr) (n : Nat), vs = [V.ref a] ∧ H a = some (.rng 0 (n : Int)) ∧ n ≤ 1000000 ∧ ∀ p, H p = none → Q (.ref p) (upd H p (.lst ((List.range n).map fun (i : Nat) => V.int (i : Int))))) := by
  intro pins s σ H vs us Q I r h
  obtain ⟨a, n, rfl, ha, hn, q⟩ := h
  rw [Vals.ref1 r]
  obtain ⟨t, u, v, hr⟩ := I.hok a _ ha
  refine call_list_range (n := n) hh hr (small_one (by decide) (by decide) (by omega) (by omega)) (by rw [rangeSize_one]; split <;> omega) (by omega) fun h' tk acc c hk hl hacc => ?_
  have hv : Vals ((List.range n).map fun (i : Nat) => V.int (i : Int)) acc.toList := by
    have z := vals_rng acc.toList (fun (i : Nat) => V.int (i : Int)) fun j v e => by
      obtain ⟨t, rfl⟩ := hacc.2 j v (by simpa using e)
      exact ⟨t, by rw [Int.mul_one, Int.zero_add]⟩
    rw [show acc.toList.length = n by simpa using hacc.1] at z
    exact z
  refine ⟨.ref _, upd H s.heap.objs.size (.lst ((List.range n).map fun (i : Nat) => V.int (i : Int))), I.laid (t' := tk) (fun b o e => hk b o e) (Nat.le_refl _) ⟨by rw [List.length_map, List.length_range, sizeLine_eq]; omega, acc.toList, c, hv, by simpa using hl⟩, rfl, q _ (I.hok.fresh (Nat.le_refl _))⟩
end
end L2
namespace Y
open PySem PySem.Spec PyProof.Rows L2
/-- what is sorted is told by what is in it -/
theorem perm_eq {α : Type} {r : α → α → Prop} : ∀ {l m : List α}, (∀ a b, a ∈ l → b ∈ l → r a b → r b a → a = b) → l.Perm m → l.Pairwise r → m.Pairwise r → l = m
  | [], m, _, p, _, _ => by rw [p.nil_eq]
  | a :: l, [], _, p, _, _ => by cases p.symm.nil_eq
  | a :: l, b :: m, anti, p, h1, h2 => by
    obtain ⟨a1, a2⟩ := List.pairwise_cons.mp h1
    obtain ⟨b1, b2⟩ := List.pairwise_cons.mp h2
    have e : a = b := by
      have ma : a ∈ b :: m := p.mem_iff.mp List.mem_cons_self
      have mb : b ∈ a :: l := p.mem_iff.mpr List.mem_cons_self
      rcases List.mem_cons.mp ma with e | ma
      · exact e
      · rcases List.mem_cons.mp mb with e | mb
        · exact e.symm
        · exact anti a b List.mem_cons_self (List.mem_cons_of_mem _ mb) (a1 b mb) (b1 a ma)
    subst e
    rw [perm_eq (fun x y hx hy => anti x y (List.mem_cons_of_mem _ hx) (List.mem_cons_of_mem _ hy)) (List.perm_cons a |>.mp p) a2 b2]
def sortI (l : List Int) : List Int := l.mergeSort fun a b => decide (a ≤ b)
theorem sortI_perm (l : List Int) : (sortI l).Perm l := List.mergeSort_perm _ _
theorem sortI_sorted (l : List Int) : (sortI l).Pairwise (· ≤ ·) := by
  refine List.Pairwise.imp (fun {a b} h => of_decide_eq_true h) (List.pairwise_mergeSort (le := fun a b : Int => decide (a ≤ b)) (fun a b c h1 h2 => ?_) (fun a b => ?_) l)
  · have := of_decide_eq_true h1; have := of_decide_eq_true h2; exact decide_eq_true (by omega)
  · rcases Int.le_total a b with h | h
    · rw [decide_eq_true h]; rfl
    · rw [decide_eq_true h, Bool.or_true]
theorem sortI_eq {l m : List Int} (p : m.Perm l) (s : m.Pairwise (· ≤ ·)) : m = sortI l :=
  perm_eq (fun a b _ _ h1 h2 => Int.le_antisymm h1 h2) (p.trans (sortI_perm l).symm) s (sortI_sorted l)
/-- pairs of small numbers -/
def tupP (q : Int × Int) : P := .tup [.int q.1, .int q.2]
def pairsOf : List P → Option (List (Int × Int))
  | [] => some []
  | .tup [.int i, .int j] :: l => if 0 ≤ i ∧ i < 1000 ∧ 0 ≤ j ∧ j < 1000 then (pairsOf l).map ((i, j) :: ·) else none
  | _ => none
def smallQ (q : Int × Int) : Prop := 0 ≤ q.1 ∧ q.1 < 1000 ∧ 0 ≤ q.2 ∧ q.2 < 1000
theorem pairsOf_eq : ∀ {l : List P} {m : List (Int × Int)}, pairsOf l = some m → l = m.map tupP ∧ ∀ q ∈ m, smallQ q := by
  intro l
  induction l with
  | nil => intro m e; rw [pairsOf] at e; cases e; exact ⟨rfl, by simp⟩
  | cons x l ih =>
    intro m e
    unfold pairsOf at e
    split at e
    · rename_i h; cases h
    · rename_i i j l2 h
      cases h
      split at e
      · rename_i hb
        obtain ⟨m2, e2, rfl⟩ := Option.map_eq_some_iff.mp e
        obtain ⟨h1, h2⟩ := ih e2
        refine ⟨by rw [h1]; rfl, fun q hq => ?_⟩
        rcases List.mem_cons.mp hq with rfl | hq
        · exact hb
        · exact h2 q hq
      · cases e
    · cases e
def cdP (q : Int × Int) : Int := q.1 * 1000 + q.2
def sortP (l : List (Int × Int)) : List (Int × Int) := l.mergeSort fun a b => decide (cdP a ≤ cdP b)
theorem sortP_perm (l : List (Int × Int)) : (sortP l).Perm l := List.mergeSort_perm _ _
theorem sortP_sorted (l : List (Int × Int)) : (sortP l).Pairwise (fun a b => cdP a ≤ cdP b) := by
  refine List.Pairwise.imp (fun {a b} h => of_decide_eq_true h) (List.pairwise_mergeSort (le := fun a b => decide (cdP a ≤ cdP b)) (fun a b c h1 h2 => ?_) (fun a b => ?_) l)
  · have := of_decide_eq_true h1; have := of_decide_eq_true h2; exact decide_eq_true (by omega)
  · rcases Int.le_total (cdP a) (cdP b) with h | h
    · rw [decide_eq_true h]; rfl
    · rw [decide_eq_true h, Bool.or_true]
theorem sortP_eq {l m : List (Int × Int)} (h : ∀ q ∈ l, smallQ q) (p : m.Perm l) (s : m.Pairwise (fun a b => cdP a ≤ cdP b)) : m = sortP l :=
  perm_eq (fun a b ha hb h1 h2 => by
    obtain ⟨a1, a2, a3, a4⟩ := h a (p.mem_iff.mp ha)
    obtain ⟨b1, b2, b3, b4⟩ := h b (p.mem_iff.mp hb)
    unfold cdP at h1 h2
    obtain ⟨x, y⟩ := a
    obtain ⟨u, v⟩ := b
    simp only at *
    rw [Prod.mk.injEq]
    omega) (p.trans (sortP_perm l).symm) s (sortP_sorted l)
section
variable {K : PySem.W.Frag} {cl : Cls} {X : Cx} {Wx : WX} {E0 : En} {ρ ρ' : List Addr} {G G' : Hp} {σ : Sg} {τ : L2.St} {st : List Cell} {H : Hp} {D : Ends}
/-- data in another order -/
theorem RPs.perm {f : Int × Int → P} {xs ys : List V} (p : xs.Perm ys) : ∀ {l : List (Int × Int)}, RPs K cl G (l.map f) xs → ∃ m : List (Int × Int), m.Perm l ∧ RPs K cl G (m.map f) ys := by
  induction p with
  | nil => intro l r; exact ⟨l, .refl _, r⟩
  | cons x p ih =>
    intro l r
    cases l with
    | nil => cases r
    | cons a l =>
      cases r with
      | cons h r =>
        obtain ⟨m, q, r2⟩ := ih r
        exact ⟨a :: m, q.cons a, .cons h r2⟩
  | swap x y p =>
    intro l r
    match l, r with
    | a :: b :: l, .cons h (.cons h2 r) => exact ⟨b :: a :: l, .swap a b l, .cons h2 (.cons h r)⟩
  | trans p1 p2 i1 i2 =>
    intro l r
    obtain ⟨m, q, r2⟩ := i1 r
    obtain ⟨m2, q2, r3⟩ := i2 r2
    exact ⟨m2, q2.trans q, r3⟩
theorem tupP_I (s : Sub G H) {q : Int × Int} {v : V} (r : RP K cl G (tupP q) v) : TupI K H v [q.1, q.2] := by
  cases r with
  | tup h r =>
    cases r with
    | cons r1 r =>
      cases r1
      cases r with
      | cons r2 r =>
        cases r2
        cases r
        exact ⟨_, rfl, s.sqT h⟩
theorem code2 (q : Int × Int) : TS.code 1000 [q.1, q.2] = cdP q := by
  unfold TS.code TS.code TS.code cdP
  simp
theorem tups_sorted (s : Sub G H) : ∀ {m : List (Int × Int)} {ys : List V}, RPs K cl G (m.map tupP) ys → ys.Pairwise (fun x y => ∀ n k, TupI K H x n → TupI K H y k → TS.code 1000 n ≤ TS.code 1000 k) → m.Pairwise (fun a b => cdP a ≤ cdP b)
  | [], _, _, _ => .nil
  | a :: m, _, .cons h r, p => by
    obtain ⟨p1, p2⟩ := List.pairwise_cons.mp p
    refine List.pairwise_cons.mpr ⟨fun b hb => ?_, tups_sorted s r p2⟩
    obtain ⟨i, hi⟩ := List.getElem?_of_mem hb
    obtain ⟨v, hv, rv⟩ := r.get (i := i) (x := tupP b) (by rw [List.getElem?_map, hi]; rfl)
    have := p1 v (List.mem_of_getElem? hv) _ _ (tupP_I s h) (tupP_I s rv)
    rw [code2, code2] at this
    exact this
theorem tups_in (s : Sub G H) {m : List (Int × Int)} {xs : List V} (r : RPs K cl G (m.map tupP) xs) (h : ∀ q ∈ m, smallQ q) : ∀ x ∈ xs, ∃ ns, TupI K H x ns ∧ ns.length = 2 ∧ TS.Bd 1000 ns := by
  intro x hx
  obtain ⟨i, hi⟩ := List.getElem?_of_mem hx
  obtain ⟨y, hy, ry⟩ := r.getV hi
  rw [List.getElem?_map] at hy
  obtain ⟨q, hq, rfl⟩ := Option.map_eq_some_iff.mp hy
  obtain ⟨q1, q2, q3, q4⟩ := h q (List.mem_of_getElem? hq)
  refine ⟨_, tupP_I s ry, rfl, fun k hk => ?_⟩
  simp only [List.mem_cons, List.not_mem_nil, or_false] at hk
  rcases hk with rfl | rfl
  · exact ⟨q1, q2⟩
  · exact ⟨q3, q4⟩
def srtL (l : List P) : Option (List P) := match intsOf l with
  | some m => some ((sortI m).map P.int)
  | none => match pairsOf l with
    | some m => if m.length < 64 then some ((sortP m).map tupP) else none
    | none => none
def vSorted (ws : List W) (st : List Cell) : Res W := match ws with
  | [.p (.tup l)] => (match pairsOf l with
    | some m => if m.length < 64 then .ok (.p (.lst ((sortP m).map tupP))) st else .no
    | none => .no)
  | [w] => (match listOf st w with
    | some l => (match srtL l with
      | some m => .ok (.p (.lst m)) st
      | none => .no)
    | none => .no)
  | _ => .no
def rSortA (K : PySem.W.Frag) : List V → Hp → VK → Prop := fun xs H Q => (rSortedI K xs H Q ∨ rSortU K 2 1000 xs H Q) ∨ rSortV K 2 1000 xs H Q
theorem call_sortA : CallR X (.builtin "sorted") (rSortA X.K) := (cr_sortedI.or (cr_sortT (by decide))).or (cr_sortV (by decide))
theorem fresh_lst {l : List P} {vs : List V} {p : Addr} {Q : VK} {Z : ZX} (R : (bs K cl E0).Rel ρ G st H) (hp : H p = none) (r : RPs K cl G l vs) (h : Aft (bs K cl E0) (bs K cl E0).RW ρ G (.ok (.p (.lst l)) st) Q Z) : Q (.ref p) (upd H p (.lst vs)) :=
  h ρ _ _ (.ref p) (List.prefix_refl _) (Sub.new (R.gnone hp)) (R.froze hp) (.lst upd_same (r.mono (Sub.new (R.gnone hp))))
theorem vSorted_ok : VCall K cl vSorted (rSortA K) := by
  intro E0 ρ G st H ws vs Q Z R rw' h
  unfold vSorted at h
  split at h
  · rename_i l
    obtain ⟨v, rfl, r⟩ := rw'.one
    split at h
    · rename_i m em
      split at h
      · rename_i hl
        obtain ⟨rfl, hs⟩ := pairsOf_eq em
        cases r with
        | @tup a vs _ ht q =>
          refine .inr ⟨_, _, rfl, R.sub.sqT ht, by rw [← q.length, List.length_map]; exact hl, tups_in R.sub q hs, fun ys p py sy hp => ?_⟩
          obtain ⟨m2, p2, q2⟩ := RPs.perm py.symm q
          rw [← sortP_eq hs p2 (tups_sorted R.sub q2 sy)] at h
          exact fresh_lst R hp q2 h
      · exact h.elim
    · exact h.elim
  · rename_i w _
    obtain ⟨v, rfl, r⟩ := rw'.one
    split at h
    · rename_i l el
      obtain ⟨a, us, rfl, ha, q⟩ := listOf_ok R r el
      split at h
      · rename_i k ek
        unfold srtL at ek
        split at ek
        · rename_i m em
          cases ek
          rw [intsOf_eq em] at q
          obtain rfl := RPs.of_ints q
          refine .inl (.inl ⟨_, m, rfl, .inl (.inl ha), fun ns p pn sn hp => ?_⟩)
          rw [← sortI_eq pn sn] at h
          exact fresh_lst R hp (RPs.ints _) h
        · split at ek
          · rename_i m em
            split at ek
            · rename_i hl
              cases ek
              obtain ⟨rfl, hs⟩ := pairsOf_eq em
              refine .inl (.inr ⟨_, _, rfl, .inl (.inl ha), by rw [← q.length, List.length_map]; exact hl, tups_in R.sub q hs, fun ys p py sy hp => ?_⟩)
              obtain ⟨m2, p2, q2⟩ := RPs.perm py.symm q
              rw [← sortP_eq hs p2 (tups_sorted R.sub q2 sy)] at h
              exact fresh_lst R hp q2 h
            · cases ek
          · cases ek
      · exact h.elim
    · exact h.elim
  · exact h.elim
end
end Y

/-! Y32: list(range(..)), xs[::-1], str.count, dicts as cells. -/
namespace Y
open PySem PySem.Spec PyProof.Rows L2
section
variable {K : PySem.W.Frag} {cl : Cls} {X : Cx} {Wx : WX} {E0 : En} {ρ ρ' : List Addr} {G G' : Hp} {σ : Sg} {τ : L2.St} {st : List Cell} {H : Hp} {D : Ends}
/-! ### list(range(n)) -/
def mListRng (a : EM) : EM := fun σ st => (a σ st).bind fun w st1 => match w with
  | .p (.int n) => if 0 ≤ n ∧ n ≤ 1000000 then .ok (.p (.lst ((List.range n.toNat).map fun (i : Nat) => P.int (i : Int)))) st1 else .no
  | _ => .no
theorem RPs.rng (n : Nat) : RPs K cl G ((List.range n).map fun (i : Nat) => P.int (i : Int)) ((List.range n).map fun (i : Nat) => V.int (i : Int)) := by
  have e := RPs.ints (K := K) (cl := cl) (G := G) ((List.range n).map fun (i : Nat) => (i : Int))
  rw [List.map_map, List.map_map] at e
  exact e
theorem se_listRng {a : EM} {e : Expr} {p p2 pos pos2 : Pos} (g : GX K X) (hgl : Gl X "list") (hml : X.mg "list" = none) (hgr : Gl X "range") (hmr : X.mg "range" = none) (ha : SE K cl X Wx a e)
    (hs : starEach [e] X.env = (false, eval e X.env) :: starEach [] X.env := by rfl) (hpl : (backTo pos2 (starEach [] X.env)).any (·.1) = false := by rfl)
    (hs2 : starEach [.Call (.Name "range" p2) [e] [] pos2] X.env = (false, eval (.Call (.Name "range" p2) [e] [] pos2) X.env) :: starEach [] X.env := by rfl) (hpl2 : (backTo pos (starEach [] X.env)).any (·.1) = false := by rfl) :
    SE K cl X Wx (mListRng a) (.Call (.Name "list" p) [.Call (.Name "range" p2) [e] [] pos2] [] pos) := by
  obtain ⟨hK, _, _, hu, hh⟩ := g
  subst hK
  refine ⟨fun E0 ρ G σ st τ H Q R S h => T.of (pe_callTy (cr_listRng hh) hgl hml rfl (pa_cons (pe_callTy cr_range1 hgr hmr rfl (T.pa1 hs) (by decide) (by decide +kernel) hs hpl) pa_nil hs2) (by decide) (by decide +kernel) hs2 hpl2) ?_⟩
  refine ha.run E0 ρ G σ st τ H _ R S (Aft.seq h fun w st1 ρ1 G1 H1 v e1 p1 s1 R1 u1 h1 => ?_)
  split at h1
  · rename_i n
    split at h1
    · rename_i hn
      cases u1
      refine ⟨n, rfl, fun p hp => ⟨p, n.toNat, rfl, by rw [upd_same, Int.toNat_of_nonneg hn.1], by omega, fun l hl => ?_⟩⟩
      exact fresh_lst (R1.froze hp) hl (RPs.rng _) (Aft.mono (List.prefix_refl _) (Sub.new (R1.gnone hp)) h1)
    · exact h1.elim
  · exact h1.elim
/-! ### xs[::-1] -/
def mRevL (a : EM) : EM := fun σ st => (a σ st).bind fun w st1 => match listOf st1 w with
  | some l => .ok (.p (.lst l.reverse)) st1
  | none => .no
theorem se_revL {a : EM} {e : Expr} {k : Nat} {p1 p2 p3 pos : Pos} (ha : SE K cl X Wx a e) : SE K cl X Wx (mRevL a) (.Subscript e (.Slice none none (some (.UnaryOp .USub (.Constant (.int 1) k p1) p2)) p3) pos) := by
  refine ⟨fun E0 ρ G σ st τ H Q R S h => T.of (pe_revL T.pe) ?_⟩
  refine ha.run E0 ρ G σ st τ H _ R S (Aft.seq h fun w st1 ρ1 G1 H1 v e1 p1 s1 R1 u1 h1 => ?_)
  split at h1
  · rename_i l el
    obtain ⟨b, vs, rfl, hb, q⟩ := listOf_ok R1 u1 el
    exact ⟨b, vs, rfl, .inl (.inl hb), fun l hl => fresh_lst R1 hl q.reverse h1⟩
  · exact h1.elim
/-! ### s.count(t) -/
def vCount (x : W) (ws : List W) (st : List Cell) : Res W := match x, ws with
  | .p (.str a), [.p (.str b)] => .ok (.p (.int (Txt.count a b))) st
  | _, _ => .no
theorem vCount_ok : VMt K cl vCount (fun x xs H Q => ∃ a b, x = .str a ∧ xs = [.str b] ∧ Q (.int (Txt.count a b)) H) := by
  intro E0 ρ G st H x v ws vs Q Z R rx rw' h
  unfold vCount at h
  split at h
  · obtain ⟨u, rfl, r⟩ := rw'.one
    cases rx
    cases r
    exact ⟨_, _, rfl, rfl, h.here R (RP.int _)⟩
  · exact h.elim
/-! ### an object that is being made, of any kind -/
structure HdO (K : PySem.W.Frag) (cl : Cls) (E0 : En) (D : Addr) (ρ : List Addr) (G : Hp) (st : List Cell) (H : Hp) (Gh : Hp) (o : HO) : Prop where
  gD : Gh D = none
  gr : ∀ a u, Gh a = some u → E0.G0 a = some u ∨ E0.H0 a = none ∨ ∃ i : Nat, i < E0.n0 ∧ ρ[i]? = some a
  hn : ∀ i : Nat, i < E0.n0 → ρ[i]? ≠ some D
  l0 : E0.n0 ≤ ρ.length
  h0 : E0.H0 D = none
  R : (bs K cl (E0.hold Gh D o)).Rel ρ G st H
theorem HdO.start {Dd : Addr} {o : HO} (R : (bs K cl E0).Rel ρ G st H) (h : H Dd = none) (nt : NT o := by intro _ z; cases z) : HdO K cl E0 Dd ρ G st (upd H Dd o) G o :=
  ⟨R.gnone h, R.grow, fun i _ => R.apart h i, R.n0, R.fresh0 h, R.hold h nt⟩
section
variable {Dd : Addr} {Gh : Hp} {o o' : HO} {st' : List Cell} {H' : Hp}
theorem HdO.held (h : HdO K cl E0 Dd ρ G st H Gh o) : H Dd = some o ∧ G Dd = none ∧ ∀ i : Nat, ρ[i]? ≠ some Dd := Rel.held h.R h.hn h.gD
theorem HdO.next (h : HdO K cl E0 Dd ρ G st H Gh o) (p : ρ <+: ρ') (s : Sub G G') (R : (bs K cl (E0.hold Gh Dd o)).Rel ρ' G' st' H') : HdO K cl E0 Dd ρ' G' st' H' Gh o := by
  have keep : ∀ i : Nat, i < E0.n0 → ρ'[i]? = ρ[i]? := fun i hi => by
    obtain ⟨t, rfl⟩ := p
    exact List.getElem?_append_left (Nat.lt_of_lt_of_le hi h.l0)
  refine ⟨h.gD, fun a u e => ?_, fun i hi => by rw [keep i hi]; exact h.hn i hi, Nat.le_trans h.l0 p.length_le, h.h0, R⟩
  rcases h.gr a u e with q | q | ⟨i, hi, q⟩
  · exact .inl q
  · exact .inr (.inl q)
  · exact .inr (.inr ⟨i, hi, by rw [keep i hi]; exact q⟩)
theorem HdO.back (h : HdO K cl E0 Dd ρ G st H Gh o) : (bs K cl E0).Rel ρ G st H := Rel.unhold h.R h.h0 h.gr (List.prefix_refl _) h.l0
theorem HdO.put (h : HdO K cl E0 Dd ρ G st H Gh o) (po : PlO o) (nt : NT o' := by intro _ z; cases z) : HdO K cl E0 Dd ρ G st (upd H Dd o') G o' :=
  ⟨h.held.2.1, h.back.grow, h.hn, h.l0, h.h0, Rel.rehold h.R po h.hn h.gD nt⟩
/-- it becomes a cell -/
theorem HdO.cell {c : Cell} (h : HdO K cl E0 Dd ρ G st H Gh o) (hc : c ≠ .dead) (x : CA K cl (ρ ++ [Dd]) G H Dd c) : (bs K cl E0).Rel (ρ ++ [Dd]) G (st ++ [c]) H :=
  Rel.adoptC h.back hc h.held.2.1 h.held.2.2 h.h0 x
/-- it becomes data -/
theorem HdO.data (h : HdO K cl E0 Dd ρ G st H Gh o) (nt : NT o := by intro _ z; cases z) : (bs K cl E0).Rel ρ (upd G Dd o) st H :=
  Rel.adopt h.back h.held.1 h.held.2.1 h.held.2.2 h.h0 nt
end
/-! ### dicts as cells -/
/-- {k: v}, a new dict -/
def mDisp1 (mk mv : EM) : EM := fun σ st => (mk σ st).nox.bind fun x st1 => (mv σ st1).nox.bind fun y st2 => match x with
  | .p z => match keyP z with
    | some k => .ok (.r st2.length) (st2 ++ [.dk [k] [y]])
    | none => .no
  | _ => .no
theorem se_disp1 {mk mv : EM} {k v : Expr} {pos : Pos} (hk : SE K cl X Wx mk k) (hv : SE K cl X Wx mv v) : SE K cl X Wx (mDisp1 mk mv) (.Dict [some k] [v] pos) := by
  refine ⟨fun E0 ρ G σ st τ H Q R S h => T.of (pe_disp (pps_cons T.pe T.pe pps_nil) rfl rfl (by simp) (by simp)) ?_⟩
  intro p hp
  have hd := HdO.start (o := .dK []) R hp
  refine hk.run _ ρ G σ st τ _ _ hd.R S (Aft.seqH h fun x st1 ρ1 G1 H1 u e1 p1 s1 R1 u1 q1 => ?_)
  have hd1 := hd.next p1 s1 R1
  refine hv.run _ ρ1 G1 σ st1 τ H1 _ hd1.R (S.mono p1 s1) (Aft.seqH q1 fun y st2 ρ2 G2 H2 u' e2 p2 s2 R2 u2 q2 => ?_)
  have hd2 := hd1.next p2 s2 R2
  split at q2
  · rename_i z
    split at q2
    · rename_i kk ek
      have hz := keyP_ok u1 ek
      subst hz
      refine ⟨hd2.held.1, [(kk, u')], rfl, by simp, ?_⟩
      have e : mergeK [] [(kk, u')] = [kk].zip [u'] := rfl
      rw [e]
      have hd3 := hd2.put (o' := .dK ([kk].zip [u'])) (po_of trivial)
      refine q2 (ρ2 ++ [p]) G2 _ (.ref p) (List.prefix_append _ _) (Sub.refl _) (hd3.cell (fun z => by cases z) ⟨[u'], upd_same, rfl, .cons (u2.mono (List.prefix_append _ _) (Sub.refl _)) .nil⟩) ⟨p, ?_, rfl⟩
      rw [← hd2.R.len]; simp
    · exact q2.elim
  · exact q2.elim
def hasK (ks : List Key) (k : Key) : Bool := ks.any fun j => decide (j = k)
theorem hasK_zip {α : Type} {k : Key} : ∀ {ks : List Key} {vs : List α}, ks.length = vs.length → ((ks.zip vs).any fun kv => decide (kv.1 = k)) = hasK ks k
  | [], [], _ => rfl
  | j :: ks, v :: vs, h => by
    unfold hasK
    rw [List.zip_cons_cons, List.any_cons, List.any_cons]
    have := hasK_zip (k := k) (ks := ks) (vs := vs) (by simpa using h)
    unfold hasK at this
    rw [this]
theorem hasK_val {k : Key} {ks : List Key} {vs : List V} (h : ks.length = vs.length) : (valV (ks.zip vs) k).isSome = hasK ks k := by
  rw [← valV_any, hasK_zip h]
theorem op_inDk (hu : X.A.units + 1 < cLine) : OpR X (compareOp .In) (fun y x H Q => ∃ a o, x = .ref a ∧ DGet H a y o ∧ Q (.bl o.isSome) H) := by
  intro pins s σ H y x u v Q I ry rx h
  obtain ⟨a, o, rfl, g, q⟩ := h
  obtain rfl : v = Value.ref a := rx
  exact d_in hu I g ry fun s3 I3 => ⟨.bl o.isSome, H, I3, rfl, q⟩
theorem op_notInDk (hu : X.A.units + 1 < cLine) : OpR X (compareOp .NotIn) (fun y x H Q => ∃ a o, x = .ref a ∧ DGet H a y o ∧ Q (.bl (!o.isSome)) H) := by
  intro pins s σ H y x u v Q I ry rx h
  obtain ⟨a, o, rfl, g, q⟩ := h
  obtain rfl : v = Value.ref a := rx
  exact d_notIn hu I g ry fun s3 I3 => ⟨.bl (!o.isSome), H, I3, rfl, q⟩
/-- the keys of a dict -/
def keysW (st : List Cell) : W → Option (List Key)
  | .p (.dk ks _) => some ks
  | .r i => (match st[i]? with
    | some (.dk ks _) => some ks
    | _ => none)
  | _ => none
theorem keysW_ok (R : (bs K cl E0).Rel ρ G st H) {w : W} {v : V} {ks : List Key} (r : RW K cl ρ G w v) (e : keysW st w = some ks) : ∃ a vs, v = .ref a ∧ H a = some (.dK (ks.zip vs)) ∧ ks.length = vs.length := by
  cases w with
  | p x =>
    cases r with
    | dk h z q => cases e; exact ⟨_, _, rfl, R.sub _ _ h, z⟩
    | _ => cases e
  | r i =>
    obtain ⟨a, ha, rfl⟩ := r
    have e : (match st[i]? with | some (.dk ks _) => some ks | _ => none) = some ks := e
    split at e
    · rename_i ks l em
      cases e
      obtain ⟨b, hb, ⟨vs, h1, z, h2⟩, _⟩ := R.at em
      cases Option.some.inj (ha.symm.trans hb)
      exact ⟨_, vs, rfl, h1, z⟩
    · cases e
def vInK (neg : Bool) (x y : W) (st : List Cell) : Res W := match x with
  | .p z => (match keyP z, keysW st y with
    | some k, some ks => .ok (.p (.bl (hasK ks k != neg))) st
    | _, _ => .no)
  | _ => .no
theorem vInK_ok : VOp K cl (vInK false) (fun y x H Q => ∃ a o, x = .ref a ∧ DGet H a y o ∧ Q (.bl o.isSome) H) := by
  intro E0 ρ G st H x y v u Q Z R rx ry h
  unfold vInK at h
  split at h
  · split at h
    · rename_i k ks ek eks
      obtain rfl := keyP_ok rx ek
      obtain ⟨a, vs, rfl, ha, z⟩ := keysW_ok R ry eks
      refine ⟨a, _, rfl, DGet.k ha, ?_⟩
      rw [hasK_val z]
      rw [show (hasK ks k != false) = hasK ks k by simp] at h
      exact h.here R (RP.bl _)
    · exact h.elim
  · exact h.elim
theorem vNotInK_ok : VOp K cl (vInK true) (fun y x H Q => ∃ a o, x = .ref a ∧ DGet H a y o ∧ Q (.bl (!o.isSome)) H) := by
  intro E0 ρ G st H x y v u Q Z R rx ry h
  unfold vInK at h
  split at h
  · split at h
    · rename_i k ks ek eks
      obtain rfl := keyP_ok rx ek
      obtain ⟨a, vs, rfl, ha, z⟩ := keysW_ok R ry eks
      refine ⟨a, _, rfl, DGet.k ha, ?_⟩
      rw [hasK_val z]
      rw [show (hasK ks k != true) = !hasK ks k by simp] at h
      exact h.here R (RP.bl _)
    · exact h.elim
  · exact h.elim
theorem se_inK {a b : EM} {pa pb : Expr} {pos : Pos} (g : GX K X) (ha : SE K cl X Wx a pa) (hb : SE K cl X Wx b pb) (hm : behindInMarks .In pb = false := by rfl) : SE K cl X Wx (mBin (vInK false) a b) (.Compare pa [.In] [pb] pos) := by
  have hu := g.hu
  exact se_cmp (op_inDk (by omega)) hm vInK_ok ha hb
theorem se_notInK {a b : EM} {pa pb : Expr} {pos : Pos} (g : GX K X) (ha : SE K cl X Wx a pa) (hb : SE K cl X Wx b pb) (hm : behindInMarks .NotIn pb = false := by rfl) : SE K cl X Wx (mBin (vInK true) a b) (.Compare pa [.NotIn] [pb] pos) := by
  have hu := g.hu
  exact se_cmp (op_notInDk (by omega)) hm vNotInK_ok ha hb
theorem st_inK {a b : EM} {pa pb : Expr} {pos : Pos} (g : GX K X) (ha : SE K cl X Wx a pa) (hb : SE K cl X Wx b pb) (hm : behindInMarks .In pb = false := by rfl) : ST K cl X Wx (mTst (mBin (vInK false) a b)) (.Compare pa [.In] [pb] pos) := by
  have hu := g.hu
  exact st_cmp (op_inDk (by omega)) hm vInK_ok ha hb
theorem st_notInK {a b : EM} {pa pb : Expr} {pos : Pos} (g : GX K X) (ha : SE K cl X Wx a pa) (hb : SE K cl X Wx b pb) (hm : behindInMarks .NotIn pb = false := by rfl) : ST K cl X Wx (mTst (mBin (vInK true) a b)) (.Compare pa [.NotIn] [pb] pos) := by
  have hu := g.hu
  exact st_cmp (op_notInDk (by omega)) hm vNotInK_ok ha hb
/-! d[k] = v -/
def dkPut (ks : List Key) (l : List W) (k : Key) (w : W) : List Key × List W :=
  if hasK ks k = true then (ks, List.zipWith (fun j x => if j = k then w else x) ks l) else (ks ++ [k], l ++ [w])
theorem rws_zip {k : Key} {w : W} {v : V} (h : RW K cl ρ G w v) : ∀ {ks : List Key} {l : List W} {vs : List V}, RWs K cl ρ G l vs → RWs K cl ρ G (List.zipWith (fun j x => if j = k then w else x) ks l) (List.zipWith (fun j x => if j = k then v else x) ks vs)
  | [], _, _, _ => by simp; exact .nil
  | _ :: _, _, _, .nil => by simp; exact .nil
  | j :: ks, _, _, .cons r rs => by
    simp only [List.zipWith_cons_cons]
    refine .cons ?_ (rws_zip h rs)
    split
    · exact h
    · exact r
theorem zip_put {k : Key} {v : V} : ∀ {ks : List Key} {vs : List V}, (ks.zip vs).map (fun kv => if kv.1 = k then (kv.1, v) else kv) = ks.zip (List.zipWith (fun j x => if j = k then v else x) ks vs)
  | [], _ => by simp
  | _ :: _, [] => by simp
  | j :: ks, x :: vs => by
    simp only [List.zip_cons_cons, List.map_cons, List.zipWith_cons_cons]
    rw [zip_put]
    split <;> rfl
theorem dkPut_ok {ks : List Key} {l : List W} {vs : List V} {k : Key} {w : W} {v : V} (z : ks.length = vs.length) (r : RWs K cl ρ G l vs) (h : RW K cl ρ G w v) :
    ∃ us, putK (ks.zip vs) k v = (dkPut ks l k w).1.zip us ∧ (dkPut ks l k w).1.length = us.length ∧ RWs K cl ρ G (dkPut ks l k w).2 us := by
  unfold putK dkPut
  rw [hasK_zip z]
  by_cases hk : hasK ks k = true
  · rw [if_pos hk, if_pos hk]
    exact ⟨_, zip_put, by simp [z], rws_zip h r⟩
  · rw [if_neg hk, if_neg hk]
    refine ⟨vs ++ [v], ?_, by simp [z], r.append (.cons h .nil)⟩
    rw [List.zip_append z]
    rfl
def sPutK (o ix m : EM) : SMm := fun σ st => (m σ st).to σ fun x st1 => (o σ st1).to σ fun w st2 => (ix σ st2).to σ fun k st3 => match w, k with
  | .r i, .p z => match st3[i]?, keyP z with
    | some (.dk ks l), some kk => if ks.length < 1000000 then .ok .nx σ (st3.set i (.dk (dkPut ks l kk x).1 (dkPut ks l kk x).2)) else .no
    | _, _ => .no
  | _, _ => .no
theorem ss_putK {o ix m : EM} {eo ei e : Expr} {pos pos' : Pos} (g : GX K X) (ho : SE K cl X Wx o eo) (hi : SE K cl X Wx ix ei) (h : SE K cl X Wx m e)
    (hs : swapsWith e (some (.Subscript eo ei pos')) pos.line X.env = pure false := by rfl) : SS K cl X Wx (sPutK o ix m) (.Assign [.Subscript eo ei pos'] e pos) := by
  have hu := g.hu
  refine ⟨fun E0 ρ G σ st τ H D R S q => TS'.of (ps_dput (by omega) T.pe T.pe T.pe hs) ?_⟩
  refine h.run E0 ρ G σ st τ H _ R S (AftS.seq S q fun x st1 ρ1 G1 H1 v e1 p1 s1 R1 u1 h1 => ?_)
  have S1 := RS.mono p1 s1 S
  refine ho.run E0 ρ1 G1 σ st1 τ H1 _ R1 S1 (AftS.seq S1 h1 fun w st2 ρ2 G2 H2 ov e2 p2 s2 R2 u2 h2 => ?_)
  have S2 := RS.mono p2 s2 S1
  refine hi.run E0 ρ2 G2 σ st2 τ H2 _ R2 S2 (AftS.seq S2 h2 fun k st3 ρ3 G3 H3 iv e3 p3 s3 R3 u3 h3 => ?_)
  split at h3
  · rename_i i z
    split at h3
    · rename_i ks l kk em ek
      split at h3
      · rename_i hl
        obtain rfl := keyP_ok u3 ek
        obtain ⟨a, ha, hov⟩ := RW.mono p3 s3 u2
        subst hov
        obtain ⟨b, hb, ⟨vs, c1, z, c2⟩, _⟩ := R3.at em
        cases Option.some.inj (ha.symm.trans hb)
        obtain ⟨us, d1, d2, d3⟩ := dkPut_ok (k := kk) z c2 (RW.mono (p2.trans p3) (s2.trans s3) u1)
        refine ⟨a, _, rfl, DPut.k c1 (by rw [zip_len z, sizeLine_eq]; omega), ?_⟩
        exact AftS.nx h3 (Rel.write (o := .dK (putK (ks.zip vs) kk v)) R3 em (fun z => by cases z) (fun z => by cases z) ha ⟨us, by rw [upd_same, d1], d2, d3⟩) (RS.mono p3 s3 S2)
      · exact h3.elim
    · exact h3.elim
  · exact h3.elim
/-! d[k], d a cell -/
theorem RWs.dkGet {l : List W} {vs : List V} (q : RWs K cl ρ G l vs) : ∀ {ks : List Key} {k : Key} {x : W}, Y.dkGet ks l k = some x → ∃ v, valV (ks.zip vs) k = some v ∧ RW K cl ρ G x v := by
  induction q with
  | nil => intro ks k x e; cases ks <;> (unfold Y.dkGet at e; simp at e)
  | @cons w v l vs r rs ih =>
    intro ks k x e
    cases ks with
    | nil => unfold Y.dkGet at e; simp at e
    | cons j ks =>
      unfold Y.dkGet at e
      rw [List.zip_cons_cons, List.find?_cons] at e
      by_cases hj : j = k
      · rw [show decide ((j, w).1 = k) = true from decide_eq_true hj] at e
        simp at e
        subst e
        exact ⟨v, by rw [List.zip_cons_cons]; exact valV_pos hj, r⟩
      · rw [show decide ((j, w).1 = k) = false from decide_eq_false hj] at e
        obtain ⟨v', e1, r1⟩ := ih (ks := ks) (k := k) (x := x) e
        exact ⟨v', by rw [List.zip_cons_cons, valV_neg hj]; exact e1, r1⟩
def mDGetC (o a : EM) : EM := fun σ st => (o σ st).bind fun w st1 => (a σ st1).bind fun x st2 => match w, x with
  | .r i, .p y => match st2[i]?, keyP y with
    | some (.dk ks l), some k => (match dkGet ks l k with
      | some z => .ok z st2
      | none => .no)
    | _, _ => .no
  | _, _ => .no
theorem se_dgetC {o a : EM} {eo e : Expr} {pos : Pos} (g : GX K X) (hs : NoSl e) (ho : SE K cl X Wx o eo) (ha : SE K cl X Wx a e) : SE K cl X Wx (mDGetC o a) (.Subscript eo e pos) := by
  have hu := g.hu
  refine ⟨fun E0 ρ G σ st τ H Q R S h => T.of (pe_dget (by omega) T.pe T.pe hs) ?_⟩
  refine ho.run E0 ρ G σ st τ H _ R S (Aft.seq h fun w st1 ρ1 G1 H1 v e1 p1 s1 R1 u1 h1 => ?_)
  refine ha.run E0 ρ1 G1 σ st1 τ H1 _ R1 (S.mono p1 s1) (Aft.seq h1 fun x st2 ρ2 G2 H2 u e2 p2 s2 R2 u2 h2 => ?_)
  replace u1 := RW.mono p2 s2 u1
  split at h2
  · rename_i i y
    split at h2
    · rename_i ks l k em ek
      split at h2
      · rename_i z ez
        have hk := keyP_ok u2 ek
        subst hk
        obtain ⟨a, ha, rfl⟩ := u1
        obtain ⟨b, hb, ⟨vs, c1, zz, c2⟩, _⟩ := R2.at em
        cases Option.some.inj (ha.symm.trans hb)
        obtain ⟨v, ev, rv⟩ := c2.dkGet ez
        exact ⟨_, v, rfl, .inl ⟨_, k, .inl c1, rfl, ev.symm⟩, h2.here R2 rv⟩
      · exact h2.elim
    · exact h2.elim
  · exact h2.elim
end
end Y

/-! Y33: the run of the top in two theorems (less memory for each). -/
namespace Y
open PySem PySem.W PySem.Calls PyProof.Rows HandSHeadRun
noncomputable section
def RunA (r : OpenRow) (q : Program) (M : Nat) (loose : List PySem.Str) (w : World) : Prop :=
  ∀ os : OsState, (endF (stepQ (denQ tabQ) r.prog w) M r.prog w os).map (fun s => (looksF r.prog (boot_heap w.params) s.abs, seenQ q loose (importedModules r.prog.main.body) (fun s => xlAt q [] s && recOk r.toRowW.records s) s.abs)) = some (true, openGood q loose)
def RunB (r : OpenRow) (H : Hook) (ob : SharedT → H.α) (M : Nat) (w : World) : Prop :=
  ∀ os : OsState, (endF (stepQ (denQ tabQ) r.prog w) M r.prog w os).map ob = some (H.val w)
theorem two3 {α β γ δ : Type} {x : Option α} {f : α → β} {g : α → γ} {h : α → δ} {a : β} {b : γ} {c : δ} (h1 : x.map (fun s => (f s, g s)) = some (a, b)) (h2 : x.map h = some c) : x.map (fun s => (f s, g s, h s)) = some (a, b, c) := by
  cases x with
  | none => cases h1
  | some s =>
    simp only [Option.map_some, Option.some.injEq, Prod.mk.injEq] at h1 h2 ⊢
    exact ⟨h1.1, h1.2, h2⟩
theorem run_two {r : OpenRow} {q : Program} {H : Hook} {ob : SharedT → H.α} {M : Nat} {loose : List PySem.Str} {w : World} (a : RunA r q M loose w) (b : RunB r H ob M w) : RunEq r q H ob M loose w := fun os => two3 (a os) (b os)
/-- the defs alone -/
def RunC (r : OpenRow) (n : Nat) (fa : List He.Fa) (fn : List He.DefD) (ts : List He.Tab) (tf : List He.Defn) (ex : PySem.W.Frag → Bool) (es : List DefE) (M : Nat) (w : World) : Prop :=
  ∀ os : OsState, (endF (stepQ (denQ tabQ) r.prog w) M r.prog w os).map (fun s => (obsE n fa fn ts tf ex es (getT s)).1.1.1.2) = some (valE' fn ts es w).1.1.1.2
/-- all but the defs -/
def RunD (r : OpenRow) (n : Nat) (fa : List He.Fa) (fn : List He.DefD) (ts : List He.Tab) (tf : List He.Defn) (ex : PySem.W.Frag → Bool) (es : List DefE) (M : Nat) (w : World) : Prop :=
  ∀ os : OsState, (endF (stepQ (denQ tabQ) r.prog w) M r.prog w os).map (fun s => (fun z : AlE => ((z.1.1.1.1, z.1.1.2), z.1.2, z.2)) (obsE n fa fn ts tf ex es (getT s))) = some (((valE' fn ts es w).1.1.1.1, (valE' fn ts es w).1.1.2), (valE' fn ts es w).1.2, (valE' fn ts es w).2)
theorem run_cd {r : OpenRow} {n : Nat} {fa : List He.Fa} {fn : List He.DefD} {ts : List He.Tab} {tf : List He.Defn} {ex : PySem.W.Frag → Bool} {es : List DefE} {M : Nat} {w : World} (c : RunC r n fa fn ts tf ex es M w) (d : RunD r n fa fn ts tf ex es M w) : RunB r (hookE' n fa fn ts tf ex es) (fun s => obsE n fa fn ts tf ex es (getT s)) M w := by
  intro os
  have h1 := c os
  have h2 := d os
  generalize endF (stepQ (denQ tabQ) r.prog w) M r.prog w os = x at *
  cases x with
  | none => cases h1
  | some s =>
    simp only [Option.map_some, Option.some.injEq, Prod.mk.injEq] at h1 h2 ⊢
    obtain ⟨⟨h3, h4⟩, h5, h6⟩ := h2
    show some (obsE n fa fn ts tf ex es (getT s)) = some (valE' fn ts es w)
    exact congrArg some (Prod.ext (Prod.ext (Prod.ext (Prod.ext h3 h1) h4) h5) h6)
end
end Y

/-! Z1: evaluation of the combinators in plain Lean. -/
namespace YZ
open Y PySem PySem.Spec PyProof.Rows L2
section
variable {α β : Type} {st st1 : List Cell} {σ : Sg}

/-! ### ends -/
@[simp] theorem Res.bind_ok (a : α) (st : List Cell) (k : α → List Cell → Res β) : (Res.ok a st).bind k = k a st := rfl
@[simp] theorem Res.bind_no (k : α → List Cell → Res β) : (Res.no : Res α).bind k = .no := rfl
@[simp] theorem Res.bind_exc (x : Exn) (st : List Cell) (k : α → List Cell → Res β) : (Res.exc x st : Res α).bind k = .exc x st := rfl
@[simp] theorem Res.nox_ok (a : α) (st : List Cell) : (Res.ok a st).nox = .ok a st := rfl
@[simp] theorem Res.nox_no : (Res.no : Res α).nox = .no := rfl
@[simp] theorem Res.to_no (k : α → List Cell → SR) : (Res.no : Res α).to σ k = .no := rfl
@[simp] theorem SR.then_no (k : Sg → List Cell → SR) : SR.no.then k = .no := rfl
@[simp] theorem Res.to_ok (a : α) (st : List Cell) (k : α → List Cell → SR) : (Res.ok a st).to σ k = k a st := rfl
@[simp] theorem SR.then_nx (k : Sg → List Cell → SR) : (SR.ok .nx σ st).then k = k σ st := rfl
@[simp] theorem SR.then_rt (w : W) (k : Sg → List Cell → SR) : (SR.ok (.rt w) σ st).then k = .ok (.rt w) σ st := rfl
@[simp] theorem SR.then_bk (k : Sg → List Cell → SR) : (SR.ok .bk σ st).then k = .ok .bk σ st := rfl
@[simp] theorem SR.then_ct (k : Sg → List Cell → SR) : (SR.ok .ct σ st).then k = .ok .ct σ st := rfl
@[simp] theorem Res.bind_ite {c : Prop} [Decidable c] (a b : Res α) (k : α → List Cell → Res β) : (if c then a else b).bind k = if c then a.bind k else b.bind k := by split <;> rfl
@[simp] theorem Res.nox_ite {c : Prop} [Decidable c] (a b : Res α) : (if c then a else b).nox = if c then a.nox else b.nox := by split <;> rfl
@[simp] theorem Res.to_ite {c : Prop} [Decidable c] (a b : Res α) (k : α → List Cell → SR) : (if c then a else b).to σ k = if c then a.to σ k else b.to σ k := by split <;> rfl
@[simp] theorem SR.then_ite {c : Prop} [Decidable c] (a b : SR) (k : Sg → List Cell → SR) : (if c then a else b).then k = if c then a.then k else b.then k := by split <;> rfl

/-! ### names of texts -/
theorem ofS_inj {a b : String} : Str.ofString a = Str.ofString b ↔ a = b := by
  constructor
  · intro h
    rw [Str.ofString_eq_toList, Str.ofString_eq_toList] at h
    have h2 : a.toList.map Char.toNat = b.toList.map Char.toNat := by simpa using h
    have h3 : ∀ (l m : List Char), l.map Char.toNat = m.map Char.toNat → l = m := by
      intro l
      induction l with
      | nil => intro m e; cases m with
        | nil => rfl
        | cons c m => cases e
      | cons c l ih => intro m e; cases m with
        | nil => cases e
        | cons d m =>
          rw [List.map_cons, List.map_cons] at e
          obtain ⟨e1, e2⟩ := List.cons.inj e
          rw [ih m e2]
          congr 1
          exact Char.ext (UInt32.toNat_inj.mp e1)
    exact String.toList_inj.mp (h3 _ _ h2)
  · intro h; rw [h]
@[simp] theorem ofS_eq {a b : String} : (Str.ofString a = Str.ofString b) = (a = b) := propext ofS_inj
@[simp] theorem ofS_beq {a b : String} : (Str.ofString a == Str.ofString b) = decide (a = b) := by
  by_cases h : a = b
  · subst h; simp
  · rw [decide_eq_false h, beq_eq_false_iff_ne]; exact fun e => h (ofS_inj.mp e)
@[simp] theorem ofS_len {a : String} : (Str.ofString a).length = a.length := by
  rw [Str.ofString_eq_toList]; simp [Str.length, String.length_toList]
@[simp] theorem LIM_e : LIM = 1000000 := rfl

/-! ### expressions -/
def varF (o : Option (Option W)) (st : List Cell) : Res W := match o with
  | some (some w) => .ok w st
  | _ => .no
@[simp] theorem varF_e (w : W) : varF (some (some w)) st = .ok w st := rfl
@[simp] theorem mVar_e (i : Nat) : mVar i σ st = varF σ[i]? st := rfl
@[simp] theorem mC_e (x : P) : mC x σ st = .ok (.p x) st := rfl
def binK (f : W → W → List Cell → Res W) (b : EM) (σ : Sg) (x : W) (st1 : List Cell) : Res W := (b σ st1).bind (f x)
@[simp] theorem binK_e (f : W → W → List Cell → Res W) (b : EM) (x : W) : binK f b σ x st = (b σ st).bind (f x) := rfl
@[simp] theorem mBin_e (f : W → W → List Cell → Res W) (a b : EM) : mBin f a b σ st = (a σ st).bind (binK f b σ) := rfl
def truR (o : Option Bool) (st : List Cell) : Res Bool := match o with
  | some k => .ok k st
  | none => .no
@[simp] theorem truR_e (k : Bool) : truR (some k) st = .ok k st := rfl
def truK (w : W) (st1 : List Cell) : Res Bool := truR (vTru st1 w) st1
@[simp] theorem truK_e (w : W) : truK w st = truR (vTru st w) st := rfl
@[simp] theorem mTru_e (m : EM) : mTru m σ st = (m σ st).bind truK := rfl
@[simp] theorem vTru_bl (b : Bool) : vTru st (.p (.bl b)) = some b := rfl
@[simp] theorem vTru_int (b : Int) : vTru st (.p (.int b)) = some (b != 0) := rfl
@[simp] theorem vTru_lst (l : List P) : vTru st (.p (.lst l)) = some (!l.isEmpty) := rfl
@[simp] theorem vTru_tup (l : List P) : vTru st (.p (.tup l)) = some (!l.isEmpty) := rfl
def tstR (w : W) (st : List Cell) : Res Bool := match w with
  | .p (.bl k) => .ok k st
  | _ => .no
@[simp] theorem tstR_e (k : Bool) : tstR (.p (.bl k)) st = .ok k st := rfl
@[simp] theorem mTst_e (m : EM) : mTst m σ st = (m σ st).bind tstR := rfl
def andK (b : TM) (σ : Sg) (c : Bool) (st1 : List Cell) : Res Bool := if c = true then b σ st1 else .ok false st1
@[simp] theorem andK_e (b : TM) (c : Bool) : andK b σ c st = if c = true then b σ st else .ok false st := rfl
@[simp] theorem mAndT_e (a b : TM) : mAndT a b σ st = (a σ st).bind (andK b σ) := rfl
def orK (b : TM) (σ : Sg) (c : Bool) (st1 : List Cell) : Res Bool := if c = true then .ok true st1 else b σ st1
@[simp] theorem orK_e (b : TM) (c : Bool) : orK b σ c st = if c = true then .ok true st else b σ st := rfl
@[simp] theorem mOrT_e (a b : TM) : mOrT a b σ st = (a σ st).bind (orK b σ) := rfl
def notK (c : Bool) (st1 : List Cell) : Res Bool := .ok (!c) st1
@[simp] theorem notK_e (c : Bool) : notK c st = .ok (!c) st := rfl
@[simp] theorem mNotT_e (a : TM) : mNotT a σ st = (a σ st).bind notK := rfl
def andVK2 (b : EM) (σ : Sg) (c : Bool) (st1 : List Cell) : Res W := if c = true then b σ st1 else .ok (.p (.bl false)) st1
@[simp] theorem andVK2_e (b : EM) (c : Bool) : andVK2 b σ c st = if c = true then b σ st else .ok (.p (.bl false)) st := rfl
def andVK (b : EM) (σ : Sg) (w : W) (st1 : List Cell) : Res W := (tstR w st1).bind (andVK2 b σ)
@[simp] theorem andVK_e (b : EM) (w : W) : andVK b σ w st = (tstR w st).bind (andVK2 b σ) := rfl
@[simp] theorem mAndV_e (a b : EM) : mAndV a b σ st = (a σ st).bind (andVK b σ) := by
  unfold mAndV
  congr 1; funext w st1
  cases w with
  | p x => cases x <;> rfl
  | r i => rfl
def orVK2 (b : EM) (σ : Sg) (c : Bool) (st1 : List Cell) : Res W := if c = true then .ok (.p (.bl true)) st1 else b σ st1
@[simp] theorem orVK2_e (b : EM) (c : Bool) : orVK2 b σ c st = if c = true then .ok (.p (.bl true)) st else b σ st := rfl
def orVK (b : EM) (σ : Sg) (w : W) (st1 : List Cell) : Res W := (tstR w st1).bind (orVK2 b σ)
@[simp] theorem orVK_e (b : EM) (w : W) : orVK b σ w st = (tstR w st).bind (orVK2 b σ) := rfl
@[simp] theorem mOrV_e (a b : EM) : mOrV a b σ st = (a σ st).bind (orVK b σ) := by
  unfold mOrV
  congr 1; funext w st1
  cases w with
  | p x => cases x <;> rfl
  | r i => rfl
def notVK2 (c : Bool) (st1 : List Cell) : Res W := .ok (.p (.bl (!c))) st1
@[simp] theorem notVK2_e (c : Bool) : notVK2 c st = .ok (.p (.bl (!c))) st := rfl
def notVK (w : W) (st1 : List Cell) : Res W := (tstR w st1).bind notVK2
@[simp] theorem notVK_e (w : W) : notVK w st = (tstR w st).bind notVK2 := rfl
@[simp] theorem mNotV_e (a : EM) : mNotV a σ st = (a σ st).bind notVK := by
  unfold mNotV
  congr 1; funext w st1
  cases w with
  | p x => cases x <;> rfl
  | r i => rfl
def ifK {α : Type} (a b : Sg → List Cell → α) (σ : Sg) (k : Bool) (st1 : List Cell) : α := if k = true then a σ st1 else b σ st1
@[simp] theorem ifK_e {α : Type} (a b : Sg → List Cell → α) (k : Bool) : ifK a b σ k st = if k = true then a σ st else b σ st := rfl
@[simp] theorem mIfE_e (c : TM) (a b : EM) : mIfE c a b σ st = (c σ st).bind (ifK a b σ) := rfl
@[simp] theorem mNil_e : mNil σ st = .ok [] st := rfl
def consK2 (w : W) (ws : List W) (st2 : List Cell) : Res (List W) := .ok (w :: ws) st2
@[simp] theorem consK2_e (w : W) (ws : List W) : consK2 w ws st = .ok (w :: ws) st := rfl
def consK (r : AM) (σ : Sg) (w : W) (st1 : List Cell) : Res (List W) := (r σ st1).bind (consK2 w)
@[simp] theorem consK_e (r : AM) (w : W) : consK r σ w st = (r σ st).bind (consK2 w) := rfl
@[simp] theorem mCons_e (a : EM) (r : AM) : mCons a r σ st = (a σ st).bind (consK r σ) := rfl
@[simp] theorem pures_nil : pures [] = some [] := rfl
@[simp] theorem pures_cons (x : P) (l : List W) : pures (.p x :: l) = (pures l).map (x :: ·) := rfl
@[simp] theorem pures_ref (i : Nat) (l : List W) : pures (.r i :: l) = none := rfl
@[simp] theorem pures_mapS (l : List P) : pures (l.map W.p) = some l := pures_map l
def pR (f : List P → W) (o : Option (List P)) (st : List Cell) : Res W := match o with
  | some l => .ok (f l) st
  | none => .no
def pRL (f : List P → W) (o : Option (List P)) (st : List Cell) : Res W := match o with
  | some l => if l.length ≤ 1000000 then .ok (f l) st else .no
  | none => .no
@[simp] theorem pRL_e (f : List P → W) (l : List P) : pRL f (some l) st = if l.length ≤ 1000000 then .ok (f l) st else .no := rfl
@[simp] theorem pR_e (f : List P → W) (l : List P) : pR f (some l) st = .ok (f l) st := rfl
def tupK (ws : List W) (st1 : List Cell) : Res W := pRL (fun l => .p (.tup l)) (pures ws) st1
@[simp] theorem tupK_e (ws : List W) : tupK ws st = pRL (fun l => .p (.tup l)) (pures ws) st := rfl
@[simp] theorem mTup_e (a : AM) : mTup a σ st = (a σ st).bind tupK := by
  unfold mTup
  rfl
def lstK (ws : List W) (st1 : List Cell) : Res W := pRL (fun l => .p (.lst l)) (pures ws) st1
@[simp] theorem lstK_e (ws : List W) : lstK ws st = pRL (fun l => .p (.lst l)) (pures ws) st := rfl
@[simp] theorem mLst_e (a : AM) : mLst a σ st = (a σ st).bind lstK := by
  unfold mLst
  rfl
def lstCK (ws : List W) (st1 : List Cell) : Res W := if ws.length ≤ 1000000 then .ok (.r st1.length) (st1 ++ [.lst ws]) else .no
@[simp] theorem lstCK_e (ws : List W) : lstCK ws st = if ws.length ≤ 1000000 then .ok (.r st.length) (st ++ [.lst ws]) else .no := rfl
@[simp] theorem mLstC_e (a : AM) : mLstC a σ st = (a σ st).bind lstCK := rfl
@[simp] theorem mCallV_e (f : List W → List Cell → Res W) (a : AM) : mCallV f a σ st = (a σ st).bind f := rfl
def chK4 (f2 : W → W → List Cell → Res W) (c : EM) (σ : Sg) (y : W) (k : Bool) (st1 : List Cell) : Res W := if k = true then (c σ st1).bind (f2 y) else .ok (.p (.bl false)) st1
@[simp] theorem chK4_e (f2 : W → W → List Cell → Res W) (c : EM) (y : W) (k : Bool) : chK4 f2 c σ y k st = if k = true then (c σ st).bind (f2 y) else .ok (.p (.bl false)) st := rfl
def chK3 (f2 : W → W → List Cell → Res W) (c : EM) (σ : Sg) (y t : W) (st1 : List Cell) : Res W := (tstR t st1).bind (chK4 f2 c σ y)
@[simp] theorem chK3_e (f2 : W → W → List Cell → Res W) (c : EM) (y t : W) : chK3 f2 c σ y t st = (tstR t st).bind (chK4 f2 c σ y) := rfl
def chK2 (f f2 : W → W → List Cell → Res W) (c : EM) (σ : Sg) (x y : W) (st1 : List Cell) : Res W := (f x y st1).bind (chK3 f2 c σ y)
@[simp] theorem chK2_e (f f2 : W → W → List Cell → Res W) (c : EM) (x y : W) : chK2 f f2 c σ x y st = (f x y st).bind (chK3 f2 c σ y) := rfl
def chK (f f2 : W → W → List Cell → Res W) (b c : EM) (σ : Sg) (x : W) (st1 : List Cell) : Res W := (b σ st1).bind (chK2 f f2 c σ x)
@[simp] theorem chK_e (f f2 : W → W → List Cell → Res W) (b c : EM) (x : W) : chK f f2 b c σ x st = (b σ st).bind (chK2 f f2 c σ x) := rfl
@[simp] theorem mChain_e (f f2 : W → W → List Cell → Res W) (a b c : EM) : mChain f f2 a b c σ st = (a σ st).bind (chK f f2 b c σ) := by
  unfold mChain
  congr 1; funext x st1
  unfold chK
  congr 1; funext y st2
  unfold chK2
  congr 1; funext t st3
  cases t with
  | p x => cases x <;> rfl
  | r i => rfl
def negR (w : W) (st : List Cell) : Res W := match w with
  | .p (.int i) => .ok (.p (.int (-i))) st
  | _ => .no
@[simp] theorem negR_e (i : Int) : negR (.p (.int i)) st = .ok (.p (.int (-i))) st := rfl
@[simp] theorem mNeg_e (a : EM) : mNeg a σ st = (a σ st).bind negR := rfl
def osR (w : W) (st : List Cell) : Res (Option Int) := match w with
  | .p (.int i) => .ok (some i) st
  | _ => .no
@[simp] theorem osR_e (i : Int) : osR (.p (.int i)) st = .ok (some i) st := rfl
@[simp] theorem oNone_e : oNone σ st = .ok none st := rfl
@[simp] theorem oSome_e (a : EM) : oSome a σ st = (a σ st).bind osR := rfl
def slK2 (x : W) (l u : Option Int) (st3 : List Cell) : Res W := vSl x l u st3
@[simp] theorem slK2_e (x : W) (l u : Option Int) : slK2 x l u st = vSl x l u st := rfl
def slK1 (hi : OM) (σ : Sg) (x : W) (l : Option Int) (st2 : List Cell) : Res W := (hi σ st2).bind (slK2 x l)
@[simp] theorem slK1_e (hi : OM) (x : W) (l : Option Int) : slK1 hi σ x l st = (hi σ st).bind (slK2 x l) := rfl
def slK (lo hi : OM) (σ : Sg) (x : W) (st1 : List Cell) : Res W := (lo σ st1).bind (slK1 hi σ x)
@[simp] theorem slK_e (lo hi : OM) (x : W) : slK lo hi σ x st = (lo σ st).bind (slK1 hi σ x) := rfl
@[simp] theorem mSl_e (a : EM) (lo hi : OM) : mSl a lo hi σ st = (a σ st).bind (slK lo hi σ) := rfl
def callK (F : FM) (ws : List W) (st1 : List Cell) : Res W := (callF F ws st1).nox
@[simp] theorem callK_e (F : FM) (ws : List W) : callK F ws st = (callF F ws st).nox := rfl
@[simp] theorem mCallF_e (F : FM) (a : AM) : mCallF F a σ st = (a σ st).bind (callK F) := rfl
@[simp] theorem clsOf_obj (c : Nat) (l : List P) : clsOf st (.p (.obj c l)) = some c := rfl
def clsR (F : FM) (w : W) (ok : Bool) (r : Res (List W)) : Res W := if ok = true then r.bind fun ws st2 => (callF F (w :: ws) st2).nox else .no
def callO (F : FM) (w : W) (ws : List W) (st1 : List Cell) : Res W := (callF F (w :: ws) st1).nox
@[simp] theorem callO_e (F : FM) (w : W) (ws : List W) : callO F w ws st = (callF F (w :: ws) st).nox := rfl
@[simp] theorem clsR_e (F : FM) (w : W) (r : Res (List W)) : clsR F w true r = r.bind (callO F w) := rfl
def methK (c : Nat) (F : FM) (a : AM) (σ : Sg) (w : W) (st1 : List Cell) : Res W := clsR F w (decide (clsOf st1 w = some c)) (a σ st1)
@[simp] theorem methK_e (c : Nat) (F : FM) (a : AM) (w : W) : methK c F a σ w st = clsR F w (decide (clsOf st w = some c)) (a σ st) := rfl
@[simp] theorem mMeth_e (c : Nat) (F : FM) (o : EM) (a : AM) : mMeth c F o a σ st = (o σ st).bind (methK c F a σ) := by
  unfold mMeth
  congr 1; funext w st1
  unfold methK clsR
  by_cases h : clsOf st1 w = some c
  · simp only [h, if_true, decide_true]
  · simp only [h, if_false, decide_false]; rfl
@[simp] theorem mInv_e (c : Nat) (F : FM) (a : EM) : mInv c F a σ st = (a σ st).bind (methK c F mNil σ) := by
  unfold mInv
  congr 1; funext w st1
  unfold methK clsR
  by_cases h : clsOf st1 w = some c
  · simp only [h, if_true, decide_true]; rfl
  · simp only [h, if_false, decide_false]; rfl
@[simp] theorem mMake_e (c n : Nat) (F : FM) (a : AM) : mMake c n F a σ st = (a σ st).bind (makeF c n F) := rfl
def fldO (cs : List (Nat × Nat)) (c : Nat) (l : List P) : Option P := match cs.lookup c with
  | some i => l[i]?
  | none => none
def fldR (cs : List (Nat × Nat)) (w : W) (st1 : List Cell) : Res W := match w with
  | .p (.obj c l) => match cs.lookup c with
    | some i => match l[i]? with
      | some x => .ok (.p x) st1
      | none => .no
    | none => .no
  | .r j => match st1[j]? with
    | some (.ins c l) => match cs.lookup c with
      | some i => match l[i]? with
        | some x => .ok x st1
        | none => .no
      | none => .no
    | _ => .no
  | _ => .no
@[simp] theorem mFld_e (cs : List (Nat × Nat)) (o : EM) : mFld cs o σ st = (o σ st).bind (fldR cs) := rfl
/-! ### statements -/
def runR : SR → Res W
  | .ok .nx _ st1 => .ok (.p .non) st1
  | .ok (.rt w) _ st1 => .ok w st1
  | _ => .no
@[simp] theorem runR_nx : runR (.ok .nx σ st) = .ok (.p .non) st := rfl
@[simp] theorem runR_rt (w : W) : runR (.ok (.rt w) σ st) = .ok w st := rfl
@[simp] theorem runR_no : runR .no = .no := rfl
@[simp] theorem runR_ite {c : Prop} [Decidable c] (a b : SR) : runR (if c then a else b) = if c then runR a else runR b := by split <;> rfl
theorem runF_e (np N : Nat) (m : SMm) (ws : List W) : runF np N m ws st = if ws.length = np then runR (m (ws.map some ++ List.replicate (N - np) none) st) else .no := by
  unfold runF
  split
  · generalize m (List.map some ws ++ List.replicate (N - np) none) st = r
    cases r with
    | ok f _ _ => cases f <;> rfl
    | exc _ _ _ => rfl
    | no => rfl
  · rfl
@[simp] theorem sNx_e : sNx σ st = .ok .nx σ st := rfl
@[simp] theorem sSeq_e (a b : SMm) : sSeq a b σ st = (a σ st).then b := rfl
@[simp] theorem sPass_e : sPass σ st = .ok .nx σ st := rfl
@[simp] theorem sBrk_e : sBrk σ st = .ok .bk σ st := rfl
@[simp] theorem sCnt_e : sCnt σ st = .ok .ct σ st := rfl
def retK (σ : Sg) (w : W) (st1 : List Cell) : SR := .ok (.rt w) σ st1
@[simp] theorem retK_e (w : W) : retK σ w st = .ok (.rt w) σ st := rfl
@[simp] theorem sRet_e (m : EM) : sRet m σ st = (m σ st).to σ (retK σ) := rfl
@[simp] theorem sRetN_e : sRetN σ st = .ok (.rt (.p .non)) σ st := rfl
def expK (σ : Sg) (w : W) (st1 : List Cell) : SR := .ok .nx σ st1
@[simp] theorem expK_e (w : W) : expK σ w st = .ok .nx σ st := rfl
@[simp] theorem sExpr_e (m : EM) : sExpr m σ st = (m σ st).to σ (expK σ) := rfl
def setK (i : Nat) (σ : Sg) (w : W) (st1 : List Cell) : SR := .ok .nx (σ.set i (some w)) st1
@[simp] theorem setK_e (i : Nat) (w : W) : setK i σ w st = .ok .nx (σ.set i (some w)) st := rfl
@[simp] theorem sSet_e (i : Nat) (m : EM) : sSet i m σ st = (m σ st).to σ (setK i σ) := rfl
@[simp] theorem sIf_e (c : TM) (a b : SMm) : sIf c a b σ st = (c σ st).to σ (ifK a b σ) := rfl
@[simp] theorem sNo_e : sNo σ st = .no := rfl
@[simp] theorem put_nm (i : Nat) (w : W) : Tg.put (.nm i) w σ = some (σ.set i (some w)) := by rw [Tg.put]
@[simp] theorem put_tp (ts : List Tg) (l : List P) : Tg.put (.tp ts) (.p (.tup l)) σ = Tg.puts ts l σ := by rw [Tg.put]
@[simp] theorem puts_nil : Tg.puts [] [] σ = some σ := by rw [Tg.puts]
@[simp] theorem puts_cons (t : Tg) (ts : List Tg) (x : P) (l : List P) : Tg.puts (t :: ts) (x :: l) σ = (Tg.put t (.p x) σ).bind fun σ' => Tg.puts ts l σ' := by
  rw [Tg.puts]; cases Tg.put t (.p x) σ <;> rfl
def putR (o : Option Sg) (st : List Cell) : SR := match o with
  | some σ' => .ok .nx σ' st
  | none => .no
@[simp] theorem putR_e : putR (some σ) st = .ok .nx σ st := rfl
def putK (t : Tg) (σ : Sg) (w : W) (st1 : List Cell) : SR := putR (t.put w σ) st1
@[simp] theorem putK_e (t : Tg) (w : W) : putK t σ w st = putR (t.put w σ) st := rfl
@[simp] theorem sPut_e (t : Tg) (m : EM) : sPut t m σ st = (m σ st).to σ (putK t σ) := rfl
def parR (i j : Nat) (σ : Sg) (ws : List W) (st1 : List Cell) : SR := match ws with
  | [v, w] => .ok .nx ((σ.set i (some v)).set j (some w)) st1
  | _ => .no
@[simp] theorem parR_e (i j : Nat) (v w : W) : parR i j σ [v, w] st = .ok .nx ((σ.set i (some v)).set j (some w)) st := rfl
@[simp] theorem sPar_e (i j : Nat) (a : AM) : sPar i j a σ st = (a σ st).to σ (parR i j σ) := rfl
def parR3 (i j l : Nat) (σ : Sg) (ws : List W) (st1 : List Cell) : SR := match ws with
  | [u, v, w] => .ok .nx (((σ.set i (some u)).set j (some v)).set l (some w)) st1
  | _ => .no
@[simp] theorem parR3_e (i j l : Nat) (u v w : W) : parR3 i j l σ [u, v, w] st = .ok .nx (((σ.set i (some u)).set j (some v)).set l (some w)) st := rfl
@[simp] theorem sPar3_e (i j l : Nat) (a : AM) : sPar3 i j l a σ st = (a σ st).to σ (parR3 i j l σ) := rfl
def starR (i j : Nat) (σ : Sg) (w : W) (st1 : List Cell) : SR := match w with
  | .p (.tup (x :: l)) => if l.length < 16384 then .ok .nx ((σ.set i (some (.p x))).set j (some (.p (.lst l)))) st1 else .no
  | _ => .no
@[simp] theorem starR_e (i j : Nat) (x : P) (l : List P) : starR i j σ (.p (.tup (x :: l))) st = if l.length < 16384 then .ok .nx ((σ.set i (some (.p x))).set j (some (.p (.lst l)))) st else .no := rfl
@[simp] theorem sStar_e (i j : Nat) (m : EM) : sStar i j m σ st = (m σ st).to σ (starR i j σ) := rfl
def mtR (cs : List (Str × SMm)) (σ : Sg) (w : W) (st1 : List Cell) : SR := match w with
  | .p (.str y) => mtF cs y σ st1
  | _ => .no
@[simp] theorem mtR_e (cs : List (Str × SMm)) (y : Str) : mtR cs σ (.p (.str y)) st = mtF cs y σ st := rfl
@[simp] theorem sMatch_e (m : EM) (cs : List (Str × SMm)) : sMatch m cs σ st = (m σ st).to σ (mtR cs σ) := rfl
@[simp] theorem mtF_nil (y : Str) : mtF [] y σ st = .ok .nx σ st := rfl
@[simp] theorem mtF_cons (z : Str) (b : SMm) (r : List (Str × SMm)) (y : Str) : mtF ((z, b) :: r) y σ st = if y = z then b σ st else mtF r y σ st := rfl
def augR (i : Nat) (σ : Sg) (r : Res W) : SR := match r with
  | .ok z st2 => .ok .nx (σ.set i (some z)) st2
  | _ => .no
@[simp] theorem augR_e (i : Nat) (z : W) : augR i σ (.ok z st) = .ok .nx (σ.set i (some z)) st := rfl
@[simp] theorem augR_no (i : Nat) : augR i σ .no = .no := rfl
@[simp] theorem augR_ite (i : Nat) {c : Prop} [Decidable c] (a b : Res W) : augR i σ (if c then a else b) = if c then augR i σ a else augR i σ b := by split <;> rfl
def augS (i : Nat) (f : W → W → List Cell → Res W) (m : EM) (σ : Sg) (st : List Cell) (o : Option (Option W)) : SR := match o with
  | some (some x) => (m σ st).to σ fun y st1 => augR i σ (f x y st1)
  | _ => .no
def augK (i : Nat) (f : W → W → List Cell → Res W) (σ : Sg) (x y : W) (st1 : List Cell) : SR := augR i σ (f x y st1)
@[simp] theorem augK_e (i : Nat) (f : W → W → List Cell → Res W) (x y : W) : augK i f σ x y st = augR i σ (f x y st) := rfl
@[simp] theorem augS_e (i : Nat) (f : W → W → List Cell → Res W) (m : EM) (x : W) : augS i f m σ st (some (some x)) = (m σ st).to σ (augK i f σ x) := rfl
@[simp] theorem sAug_e (i : Nat) (f : W → W → List Cell → Res W) (m : EM) : sAug i f m σ st = augS i f m σ st σ[i]? := by
  unfold sAug augS augR; rfl
def ixR (σ : Sg) (x : W) (w k : W) (st3 : List Cell) : SR := match w, k with
  | .r i, .p (.int n) => match st3[i]? with
    | some (.lst l) => match L2.ixN l.length n with
      | some j => .ok .nx σ (st3.set i (.lst (l.set j x)))
      | none => .no
    | _ => .no
  | _, _ => .no
def ixR2 (σ : Sg) (st3 : List Cell) (i : Nat) (x : W) (n : Int) (c : Option Cell) : SR := match c with
    | some (.lst l) => match L2.ixN l.length n with
      | some j => .ok .nx σ (st3.set i (.lst (l.set j x)))
      | none => .no
    | _ => .no
def ixR3 (σ : Sg) (st3 : List Cell) (i : Nat) (x : W) (l : List W) (o : Option Nat) : SR := match o with
      | some j => .ok .nx σ (st3.set i (.lst (l.set j x)))
      | none => .no
@[simp] theorem ixR_e (x : W) (i : Nat) (n : Int) : ixR σ x (.r i) (.p (.int n)) st = ixR2 σ st i x n st[i]? := rfl
@[simp] theorem ixR2_e (x : W) (i : Nat) (n : Int) (l : List W) : ixR2 σ st i x n (some (.lst l)) = ixR3 σ st i x l (L2.ixN l.length n) := rfl
@[simp] theorem ixR3_e (x : W) (i j : Nat) (l : List W) : ixR3 σ st i x l (some j) = .ok .nx σ (st.set i (.lst (l.set j x))) := rfl
def sixK2 (σ : Sg) (x w k : W) (st3 : List Cell) : SR := ixR σ x w k st3
@[simp] theorem sixK2_e (x w k : W) : sixK2 σ x w k st = ixR σ x w k st := rfl
def sixK1 (ix : EM) (σ : Sg) (x w : W) (st3 : List Cell) : SR := (ix σ st3).to σ (sixK2 σ x w)
@[simp] theorem sixK1_e (ix : EM) (x w : W) : sixK1 ix σ x w st = (ix σ st).to σ (sixK2 σ x w) := rfl
def sixK (o ix : EM) (σ : Sg) (x : W) (st3 : List Cell) : SR := (o σ st3).to σ (sixK1 ix σ x)
@[simp] theorem sixK_e (o ix : EM) (x : W) : sixK o ix σ x st = (o σ st).to σ (sixK1 ix σ x) := rfl
@[simp] theorem sSetIx_e (o ix m : EM) : sSetIx o ix m σ st = (m σ st).to σ (sixK o ix σ) := rfl
@[simp] theorem ixN_nat (n j : Nat) (h : j < n) : L2.ixN n ((j : Nat) : Int) = some j := by
  unfold L2.ixN; rw [if_pos (by omega), if_pos (by omega)]; simp
def setFR (cs : List (Nat × Nat)) (σ : Sg) (x w : W) (st2 : List Cell) : SR := match w with
  | .r j => match st2[j]? with
    | some (.ins c l) => match cs.lookup c with
      | some i => if i ≤ l.length then .ok .nx σ (st2.set j (.ins c (if i < l.length then l.set i x else l ++ [x]))) else .no
      | none => .no
    | _ => .no
  | _ => .no
def sfK1 (cs : List (Nat × Nat)) (σ : Sg) (x w : W) (st3 : List Cell) : SR := setFR cs σ x w st3
@[simp] theorem sfK1_e (cs : List (Nat × Nat)) (x w : W) : sfK1 cs σ x w st = setFR cs σ x w st := rfl
def sfK (cs : List (Nat × Nat)) (o : EM) (σ : Sg) (x : W) (st3 : List Cell) : SR := (o σ st3).to σ (sfK1 cs σ x)
@[simp] theorem sfK_e (cs : List (Nat × Nat)) (o : EM) (x : W) : sfK cs o σ x st = (o σ st).to σ (sfK1 cs σ x) := rfl
@[simp] theorem sSetF_e (cs : List (Nat × Nat)) (o m : EM) : sSetF cs o m σ st = (m σ st).to σ (sfK cs o σ) := rfl
/-! self, the cell 0 -/
@[simp] theorem setFR_0 (c i : Nat) (x : W) (l : List W) (r : List Cell) : setFR [(c, i)] σ x (.r 0) (.ins c l :: r) = if i ≤ l.length then .ok .nx σ (.ins c (if i < l.length then l.set i x else l ++ [x]) :: r) else .no := by
  unfold setFR; simp
@[simp] theorem fldR_obj (c i : Nat) (l : List P) : fldR [(c, i)] (.p (.obj c l)) st = varF (l[i]?.map fun x => some (.p x)) st := by
  unfold fldR varF; simp only [List.lookup_cons, beq_self_eq_true]
  cases l[i]? <;> rfl
@[simp] theorem fldR_0 (c i : Nat) (l : List W) (r : List Cell) : fldR [(c, i)] (.r 0) (.ins c l :: r) = varF (l[i]?.map some) (.ins c l :: r) := by
  unfold fldR varF; simp only [List.getElem?_cons_zero, List.lookup_cons, beq_self_eq_true]
  cases l[i]? <;> rfl
/-! texts -/
def fmtR (w : W) (st1 : List Cell) : Res W := match w with
  | .p (.str y) => if y.length ≤ 1000000 then .ok (.p (.str y)) st1 else .no
  | .p (.int i) => if i.natAbs.log2 < 1920 then .ok (.p (.str (toString i))) st1 else .no
  | _ => .no
@[simp] theorem fmtR_str (y : Str) : fmtR (.p (.str y)) st = if y.length ≤ 1000000 then .ok (.p (.str y)) st else .no := rfl
@[simp] theorem fmtR_int (i : Int) : fmtR (.p (.int i)) st = if i.natAbs.log2 < 1920 then .ok (.p (.str (toString i))) st else .no := rfl
@[simp] theorem mFmt_e (a : EM) : mFmt a σ st = (a σ st).bind fmtR := rfl
@[simp] theorem jsF_nil (acc : Str) : jsF [] acc σ st = .ok (.p (.str acc)) st := rfl
def jsK (ms : List EM) (acc : Str) (σ : Sg) (w : W) (st1 : List Cell) : Res W := match w with
  | .p (.str y) => if (acc ++ y).length ≤ 1000000 then jsF ms (acc ++ y) σ st1 else .no
  | _ => .no
@[simp] theorem jsK_e (ms : List EM) (acc y : Str) : jsK ms acc σ (.p (.str y)) st = if (acc ++ y).length ≤ 1000000 then jsF ms (acc ++ y) σ st else .no := rfl
@[simp] theorem jsF_cons (m : EM) (ms : List EM) (acc : Str) : jsF (m :: ms) acc σ st = (m σ st).bind (jsK ms acc σ) := rfl
/-! isinstance -/
def isiR (T : String) (o : Option String) (st : List Cell) : Res W := match o with
  | some t => .ok (.p (.bl (kitTab t T))) st
  | none => .no
@[simp] theorem isiR_e (T t : String) : isiR T (some t) st = .ok (.p (.bl (kitTab t T))) st := rfl
def isiK (T : String) (w : W) (st1 : List Cell) : Res W := isiR T (tyName st1 w) st1
@[simp] theorem isiK_e (T : String) (w : W) : isiK T w st = isiR T (tyName st w) st := rfl
@[simp] theorem mIsi_e (T : String) (a : EM) : mIsi T a σ st = (a σ st).bind (isiK T) := rfl
@[simp] theorem tyName_non : tyName st (.p .non) = some "NoneType" := rfl
@[simp] theorem tyName_bl (b : Bool) : tyName st (.p (.bl b)) = some "bool" := rfl
@[simp] theorem tyName_int (b : Int) : tyName st (.p (.int b)) = some "int" := rfl
@[simp] theorem tyName_str (b : Str) : tyName st (.p (.str b)) = some "str" := rfl
@[simp] theorem tyName_tup (b : List P) : tyName st (.p (.tup b)) = some "tuple" := rfl
@[simp] theorem tyName_lst (b : List P) : tyName st (.p (.lst b)) = some "list" := rfl
@[simp] theorem tyName_dk (k : List Key) (b : List P) : tyName st (.p (.dk k b)) = some "dict" := rfl
@[simp] theorem kitTab_e (t T : String) : kitTab t T = (decide (t = T) || (decide (t = "bool") && decide (T = "int"))) := rfl
/-! tables -/
def inTR (kvs : List (Str × Str)) (neg : Bool) (w : W) (st1 : List Cell) : Res W := match w with
  | .p (.str z) => .ok (.p (.bl (if neg = true then !(kvs.lookup z).isSome else (kvs.lookup z).isSome))) st1
  | _ => .no
@[simp] theorem inTR_e (kvs : List (Str × Str)) (neg : Bool) (z : Str) : inTR kvs neg (.p (.str z)) st = .ok (.p (.bl (if neg = true then !(kvs.lookup z).isSome else (kvs.lookup z).isSome))) st := rfl
@[simp] theorem mInT_e (kvs : List (Str × Str)) (neg : Bool) (a : EM) : mInT kvs neg a σ st = (a σ st).bind (inTR kvs neg) := rfl
def getTR (o : Option Str) (st1 : List Cell) : Res W := match o with
    | some y => .ok (.p (.str y)) st1
    | none => .no
@[simp] theorem getTR_e (y : Str) : getTR (some y) st = .ok (.p (.str y)) st := rfl
def getTW (kvs : List (Str × Str)) (w : W) (st1 : List Cell) : Res W := match w with
  | .p (.str z) => getTR (kvs.lookup z) st1
  | _ => .no
@[simp] theorem getTW_e (kvs : List (Str × Str)) (z : Str) : getTW kvs (.p (.str z)) st = getTR (kvs.lookup z) st := rfl
@[simp] theorem mGetT_e (kvs : List (Str × Str)) (a : EM) : mGetT kvs a σ st = (a σ st).bind (getTW kvs) := by
  unfold mGetT; rfl
/-! methods of lists, texts -/
def bmR (ok : Bool) (f : List W → List Cell → Res W) (r : Res (List W)) : Res W := if ok = true then r.bind f else .no
@[simp] theorem bmR_e (f : List W → List Cell → Res W) (r : Res (List W)) : bmR true f r = r.bind f := rfl
def bmK (T : String) (f : W → List W → List Cell → Res W) (a : AM) (σ : Sg) (w : W) (st1 : List Cell) : Res W := bmR (decide (tyW st1 w = some T)) (f w) (a σ st1)
@[simp] theorem bmK_e (T : String) (f : W → List W → List Cell → Res W) (a : AM) (w : W) : bmK T f a σ w st = bmR (decide (tyW st w = some T)) (f w) (a σ st) := rfl
@[simp] theorem mBm_e (T : String) (f : W → List W → List Cell → Res W) (o : EM) (a : AM) : mBm T f o a σ st = (o σ st).bind (bmK T f a σ) := by
  unfold mBm
  congr 1; funext w st1
  unfold bmK bmR
  by_cases h : tyW st1 w = some T
  · simp only [h, if_true, decide_true]
  · simp only [h, if_false, decide_false]; rfl
end
end YZ

/-! Z2: values, sequences, loops. -/
namespace YZ
open Y PySem PySem.Spec PyProof.Rows L2
section
variable {α β : Type} {st st1 : List Cell} {σ : Sg}

/-! ### ints -/
@[simp] theorem vLt_e (i j : Int) : vLt (.p (.int i)) (.p (.int j)) st = .ok (.p (.bl (decide (i < j)))) st := rfl
@[simp] theorem vLe_e (i j : Int) : vLe (.p (.int i)) (.p (.int j)) st = .ok (.p (.bl (decide (i ≤ j)))) st := rfl
@[simp] theorem vGt_e (i j : Int) : vGt (.p (.int i)) (.p (.int j)) st = .ok (.p (.bl (decide (j < i)))) st := rfl
@[simp] theorem vGe_e (i j : Int) : vGe (.p (.int i)) (.p (.int j)) st = .ok (.p (.bl (decide (j ≤ i)))) st := rfl
@[simp] theorem vSub_e (i j : Int) : vSub (.p (.int i)) (.p (.int j)) st = .ok (.p (.int (i - j))) st := rfl
@[simp] theorem vAdd_e (i j : Int) : vAdd (.p (.int i)) (.p (.int j)) st = .ok (.p (.int (i + j))) st := rfl
@[simp] theorem vIadd_e (i j : Int) : vIadd (.p (.int i)) (.p (.int j)) st = .ok (.p (.int (i + j))) st := rfl
@[simp] theorem vMulI_e (i j : Int) : vMulI (.p (.int i)) (.p (.int j)) st = if mulOk i j = true then .ok (.p (.int (i * j))) st else .no := rfl
@[simp] theorem vFdv_e (i j : Int) : vFdv (.p (.int i)) (.p (.int j)) st = if 0 < j ∧ j.natAbs.log2 < 9000 then .ok (.p (.int (i / j))) st else .no := by
  unfold vFdv vI2; simp
@[simp] theorem vMod_e (i j : Int) : vMod (.p (.int i)) (.p (.int j)) st = if 0 < j then .ok (.p (.int (i % j))) st else .no := by
  unfold vMod vI2; simp
@[simp] theorem vPow_e (i j : Int) : vPow (.p (.int i)) (.p (.int j)) st = if 0 ≤ j ∧ j ≤ 1000 ∧ i.natAbs < 1000 then .ok (.p (.int (i ^ j.toNat))) st else .no := by
  unfold vPow vI2; simp
/-- small enough for every product here -/
def Sm (i : Int) : Prop := i.natAbs < 2 ^ 200000
theorem log2_lt {n k : Nat} (h : n < 2 ^ k) (hk : 0 < k) : n.log2 < k := by
  rcases Nat.eq_zero_or_pos n with rfl | hn
  · simpa using hk
  · exact (Nat.log2_lt (by omega)).mpr h
theorem mulOk_of {i j : Int} (h : Sm i) (h2 : Sm j) : mulOk i j = true := by
  unfold mulOk
  have a := log2_lt h (by decide)
  have b := log2_lt h2 (by decide)
  exact decide_eq_true (by omega)
theorem pow_le_big {k : Nat} (h : k ≤ 200000) : 2 ^ k ≤ 2 ^ 200000 := Nat.pow_le_pow_right (by decide) h
theorem Sm.lt {i : Int} (k : Nat) (h : i.natAbs < 2 ^ k) (hk : k ≤ 200000) : Sm i := Nat.lt_of_lt_of_le h (pow_le_big hk)
theorem two64 : (2 : Nat) ^ 64 = 18446744073709551616 := rfl
theorem Sm.small {i : Int} (h : i.natAbs < 18446744073709551616) : Sm i := Sm.lt 64 (by rw [two64]; exact h) (by decide)

/-! ### items -/
theorem atI_nat {l : List α} {i : Int} (h0 : 0 ≤ i) : L2.atI l i = l[i.toNat]? := by
  unfold L2.atI L2.ixN
  rw [if_pos h0]
  by_cases h : i < l.length
  · rw [if_pos h]; rfl
  · rw [if_neg h, List.getElem?_eq_none (by omega)]; rfl
@[simp] theorem atI_lit {l : List α} (n : Nat) : L2.atI l (no_index (OfNat.ofNat n) : Int) = l[(OfNat.ofNat n : Nat)]? := by
  rw [atI_nat (by exact Int.natCast_nonneg n)]; rfl
@[simp] theorem atI_cast {l : List α} (n : Nat) : L2.atI l (n : Int) = l[n]? := by
  rw [atI_nat (Int.natCast_nonneg n)]; rfl
theorem atI_map {f : α → β} {l : List α} {i : Int} : L2.atI (l.map f) i = (L2.atI l i).map f := by
  unfold L2.atI
  rw [List.length_map]
  cases L2.ixN l.length i with
  | none => rfl
  | some j => show (l.map f)[j]? = _; rw [List.getElem?_map]; rfl
@[simp] theorem ixN_lit (n j : Nat) : L2.ixN n (no_index (OfNat.ofNat j) : Int) = if (OfNat.ofNat j : Nat) < n then some (OfNat.ofNat j : Nat) else none := by
  show L2.ixN n ((j : Nat) : Int) = if j < n then some j else none
  unfold L2.ixN
  rw [if_pos (by omega)]
  by_cases h : j < n
  · rw [if_pos (by omega), if_pos h]; simp
  · rw [if_neg (by omega), if_neg h]
def ixP (o : Option P) (st : List Cell) : Res W := match o with
  | some z => .ok (.p z) st
  | none => .no
@[simp] theorem ixP_e (z : P) : ixP (some z) st = .ok (.p z) st := rfl
def ixW (o : Option W) (st : List Cell) : Res W := match o with
  | some z => .ok z st
  | none => .no
@[simp] theorem ixW_e (z : W) : ixW (some z) st = .ok z st := rfl
@[simp] theorem vIx_tup (l : List P) (i : Int) : vIx (.p (.tup l)) (.p (.int i)) st = ixP (L2.atI l i) st := rfl
@[simp] theorem vIx_lst (l : List P) (i : Int) : vIx (.p (.lst l)) (.p (.int i)) st = ixP (L2.atI l i) st := by
  unfold vIx
  show (match lstOf st (.p (.lst l)) with | some l => (match L2.atI l i with | some z => Res.ok z st | none => .no) | none => .no) = _
  unfold lstOf
  show (match L2.atI (l.map W.p) i with | some z => Res.ok z st | none => .no) = _
  rw [atI_map]
  cases L2.atI l i <;> rfl
def ixC (i : Int) (c : Option Cell) (st : List Cell) : Res W := match c with
  | some (.lst l) => ixW (L2.atI l i) st
  | _ => .no
@[simp] theorem ixC_e (i : Int) (l : List W) : ixC i (some (.lst l)) st = ixW (L2.atI l i) st := rfl
@[simp] theorem vIx_r (j : Nat) (i : Int) : vIx (.r j) (.p (.int i)) st = ixC i st[j]? st := by
  unfold vIx ixC lstOf
  dsimp only
  cases st[j]? with
  | none => rfl
  | some c => cases c <;> rfl
@[simp] theorem vIx_str (s : Str) (i : Int) : vIx (.p (.str s)) (.p (.int i)) st = if s.length ≤ 1000000 then ixP ((L2.atI s.cps.toList i).map fun c => .str ⟨#[c]⟩) st else .no := by
  unfold vIx
  dsimp only
  by_cases h : s.length ≤ 1000000
  · rw [if_pos h, if_pos (show s.length ≤ LIM from h)]
    cases L2.atI s.cps.toList i <;> rfl
  · rw [if_neg h, if_neg (show ¬ s.length ≤ LIM from h)]
@[simp] theorem vLen_tup (l : List P) : vLen [.p (.tup l)] st = .ok (.p (.int l.length)) st := rfl
@[simp] theorem vLen_lst (l : List P) : vLen [.p (.lst l)] st = .ok (.p (.int l.length)) st := by
  unfold vLen lstOf; simp
@[simp] theorem vLen_str (s : Str) : vLen [.p (.str s)] st = if s.length ≤ 1000000 then .ok (.p (.int s.length)) st else .no := rfl
@[simp] theorem vLen_dk (ks : List Key) (l : List P) : vLen [.p (.dk ks l)] st = .ok (.p (.int ks.length)) st := rfl
def lenC (c : Option Cell) (st : List Cell) : Res W := match c with
  | some (.lst l) => .ok (.p (.int l.length)) st
  | some (.dk ks _) => .ok (.p (.int ks.length)) st
  | _ => .no
@[simp] theorem lenC_e (l : List W) : lenC (some (.lst l)) st = .ok (.p (.int l.length)) st := rfl
@[simp] theorem vLen_r (i : Nat) : vLen [.r i] st = lenC st[i]? st := by
  unfold vLen lenC lstOf
  dsimp only
  cases st[i]? with
  | none => rfl
  | some c => cases c <;> rfl

/-! ### slices -/
theorem cut_from {l : List α} {i : Int} (h : 0 ≤ i) : cutL l (some i) none = l.drop i.toNat := by
  obtain ⟨n, rfl⟩ := Int.eq_ofNat_of_zero_le h
  unfold cutL
  rw [HT.sIx_nat, HT.sIx_none, List.take_of_length_le (by simp)]
  rcases Nat.le_total n l.length with h | h
  · rw [Nat.min_eq_left h]; rfl
  · rw [Nat.min_eq_right h, List.drop_of_length_le (Nat.le_refl _), List.drop_of_length_le (by simpa using h)]
theorem cut_to {l : List α} {i : Int} (h : 0 ≤ i) : cutL l none (some i) = l.take i.toNat := by
  obtain ⟨n, rfl⟩ := Int.eq_ofNat_of_zero_le h
  unfold cutL
  rw [HT.sIx_nat, HT.sIx_none, List.drop_zero, Nat.sub_zero]
  rcases Nat.le_total n l.length with h | h
  · rw [Nat.min_eq_left h]; rfl
  · rw [Nat.min_eq_right h, List.take_of_length_le (Nat.le_refl _), List.take_of_length_le (by simpa using h)]
theorem cut_mid {l : List α} {i j : Int} (h : 0 ≤ i) (h2 : i ≤ j) : cutL l (some i) (some j) = (l.drop i.toNat).take (j.toNat - i.toNat) := by
  obtain ⟨n, rfl⟩ := Int.eq_ofNat_of_zero_le h
  obtain ⟨m, rfl⟩ := Int.eq_ofNat_of_zero_le (Int.le_trans h h2)
  unfold cutL
  rw [HT.sIx_nat, HT.sIx_nat]
  show _ = (l.drop n).take (m - n)
  rcases Nat.le_total n l.length with h | h
  · rw [Nat.min_eq_left h]
    rcases Nat.le_total m l.length with h' | h'
    · rw [Nat.min_eq_left h']
    · rw [Nat.min_eq_right h', List.take_of_length_le (by simp), List.take_of_length_le (by simp; omega)]
  · rw [List.drop_of_length_le (by omega), List.drop_of_length_le (by omega)]; simp
@[simp] theorem cut_from_lit {l : List α} (n : Nat) : cutL l (some (no_index (OfNat.ofNat n) : Int)) none = l.drop (OfNat.ofNat n : Nat) := by
  rw [cut_from (by exact Int.natCast_nonneg n)]; rfl
@[simp] theorem cut_to_lit {l : List α} (n : Nat) : cutL l none (some (no_index (OfNat.ofNat n) : Int)) = l.take (OfNat.ofNat n : Nat) := by
  rw [cut_to (by exact Int.natCast_nonneg n)]; rfl
@[simp] theorem vSl_tup (l : List P) (lo hi : Option Int) : vSl (.p (.tup l)) lo hi st = .ok (.p (.tup (cutL l lo hi))) st := rfl
@[simp] theorem vSl_lst (l : List P) (lo hi : Option Int) : vSl (.p (.lst l)) lo hi st = .ok (.p (.lst (cutL l lo hi))) st := rfl
@[simp] theorem vSl_scr (l : List Int) (lo hi : Option Int) : vSl (.p (.scr l)) lo hi st = .ok (.p (.lst ((cutL l lo hi).map .int))) st := rfl
@[simp] theorem vSl_str (z : Str) (lo hi : Option Int) : vSl (.p (.str z)) lo hi st = if z.length ≤ 1000000 then .ok (.p (.str (cutS z lo hi))) st else .no := rfl

/-! ### sequences as data -/
@[simp] theorem pures_mapC {α : Type} (g : α → P) (l : List α) : pures (l.map (W.p ∘ g)) = some (l.map g) := by rw [← List.map_map, pures_mapS]
@[simp] theorem pures_mapL {α : Type} (g : α → P) (l : List α) : pures (l.map fun x => W.p (g x)) = some (l.map g) := pures_mapC g l
@[simp] theorem unC_p (x : P) : unC st (.p x) = some x := rfl
@[simp] theorem seqP_lst (l : List P) : seqP st (.p (.lst l)) = some l := rfl
@[simp] theorem seqP_tup (l : List P) : seqP st (.p (.tup l)) = some l := rfl
@[simp] theorem listOf_lst (l : List P) : Y.listOf st (.p (.lst l)) = some l := rfl
def seqC (c : Option Cell) : Option (List P) := match c with
  | some (.lst l) => pures l
  | _ => none
@[simp] theorem seqC_e (l : List W) : seqC (some (.lst l)) = pures l := rfl
@[simp] theorem seqP_r (i : Nat) : seqP st (.r i) = seqC st[i]? := by
  unfold seqP seqC unC
  dsimp only
  cases st[i]? with
  | none => rfl
  | some c => cases c with
    | lst l => simp only; cases pures l <;> rfl
    | _ => rfl
@[simp] theorem listOf_r (i : Nat) : Y.listOf st (.r i) = seqC st[i]? := by
  unfold Y.listOf seqC unC
  dsimp only
  cases st[i]? with
  | none => rfl
  | some c => cases c with
    | lst l => simp only; cases pures l <;> rfl
    | _ => rfl
@[simp] theorem intsOf_nil : intsOf [] = some [] := rfl
@[simp] theorem intsOf_cons (i : Int) (l : List P) : intsOf (.int i :: l) = (intsOf l).map (i :: ·) := by
  rw [intsOf]; cases intsOf l <;> rfl
@[simp] theorem intsOf_mapB {α : Type} (l : List α) (f : α → Int) : intsOf (l.map fun x => P.int (f x)) = some (l.map f) := by
  have := intsOf_map (l.map f)
  rwa [List.map_map] at this
@[simp] theorem intsOf_mapC {α : Type} (l : List α) (f : α → Int) : intsOf (l.map (P.int ∘ f)) = some (l.map f) := intsOf_mapB l f
@[simp] theorem intsOf_mapS (l : List Int) : intsOf (l.map P.int) = some l := intsOf_map l
@[simp] theorem trusF_nil : trusF [] = some [] := rfl
theorem trusF_map (l : List Bool) : trusF (l.map P.bl) = some l := by
  induction l with
  | nil => rfl
  | cons b l ih => rw [List.map_cons, trusF, ih]; rfl
@[simp] theorem trusF_mapB {α : Type} (l : List α) (f : α → Bool) : trusF (l.map fun x => P.bl (f x)) = some (l.map f) := by
  have := trusF_map (l.map f)
  rwa [List.map_map] at this
@[simp] theorem trusF_mapC {α : Type} (l : List α) (f : α → Bool) : trusF (l.map (P.bl ∘ f)) = some (l.map f) := trusF_mapB l f
@[simp] theorem trusF_bl (b : Bool) (l : List P) : trusF (.bl b :: l) = (trusF l).map (b :: ·) := by
  rw [trusF]; unfold truF; simp only; cases trusF l <;> rfl
@[simp] theorem trusF_int (b : Int) (l : List P) : trusF (.int b :: l) = (trusF l).map ((b != 0) :: ·) := by
  rw [trusF]; unfold truF; simp only; cases trusF l <;> rfl
def sumR (o : Option (List Int)) (st : List Cell) : Res W := match o with
  | some l => .ok (.p (.int l.sum)) st
  | none => .no
@[simp] theorem sumR_e (l : List Int) : sumR (some l) st = .ok (.p (.int l.sum)) st := rfl
@[simp] theorem vSum_e (w : W) : vSum [w] st = sumR ((Y.listOf st w).bind intsOf) st := by unfold vSum sumR; rfl
def maxR (o : Option (List Int)) (st : List Cell) : Res W := match o with
  | some l => if 0 < l.length then .ok (.p (.int (maxI l))) st else .no
  | none => .no
@[simp] theorem maxR_e (l : List Int) : maxR (some l) st = if 0 < l.length then .ok (.p (.int (maxI l))) st else .no := rfl
@[simp] theorem vMax_e (w : W) : vMax [w] st = maxR ((Y.listOf st w).bind intsOf) st := by unfold vMax maxR; rfl
@[simp] theorem vSumS_e (w : W) : vSumS [w] st = sumR ((seqP st w).bind intsOf) st := by unfold vSumS sumR; rfl
@[simp] theorem vMaxS_e (w : W) : vMaxS [w] st = maxR ((seqP st w).bind intsOf) st := by unfold vMaxS maxR; rfl
@[simp] theorem vMaxS_2 (i j : Int) : vMaxS [.p (.int i), .p (.int j)] st = .ok (.p (.int (if j > i then j else i))) st := rfl
@[simp] theorem vMax_2 (i j : Int) : vMax [.p (.int i), .p (.int j)] st = .ok (.p (.int (if j > i then j else i))) st := rfl
@[simp] theorem vMin_2 (i j : Int) : vMin [.p (.int i), .p (.int j)] st = .ok (.p (.int (if j < i then j else i))) st := rfl
def anyR (f : List Bool → Bool) (o : Option (List Bool)) (st : List Cell) : Res W := match o with
  | some bs => .ok (.p (.bl (f bs))) st
  | none => .no
@[simp] theorem anyR_e (f : List Bool → Bool) (bs : List Bool) : anyR f (some bs) st = .ok (.p (.bl (f bs))) st := rfl
@[simp] theorem vAnyG_e (f : List Bool → Bool) (w : W) : vAnyG f [w] st = anyR f ((seqP st w).bind trusF) st := by unfold vAnyG anyR; rfl
@[simp] theorem vInt_int (i : Int) : vInt [.p (.int i)] st = .ok (.p (.int i)) st := rfl
@[simp] theorem vInt_bl (k : Bool) : vInt [.p (.bl k)] st = .ok (.p (.int (if k then 1 else 0))) st := rfl
@[simp] theorem vAbs_e (i : Int) : vAbs [.p (.int i)] st = .ok (.p (.int (if i < 0 then -i else i))) st := rfl
@[simp] theorem vStr_int (i : Int) : vStr [.p (.int i)] st = if i.natAbs.log2 < 1920 then .ok (.p (.str (toString i))) st else .no := rfl
@[simp] theorem vTupOf_tup (l : List P) : vTupOf [.p (.tup l)] st = .ok (.p (.tup l)) st := rfl
@[simp] theorem vTupOf_lst (l : List P) : vTupOf [.p (.lst l)] st = .ok (.p (.tup l)) st := rfl
def tupC (o : Option (List P)) (st : List Cell) : Res W := match o with
  | some l => .ok (.p (.tup l)) st
  | none => .no
@[simp] theorem tupC_e (l : List P) : tupC (some l) st = .ok (.p (.tup l)) st := rfl
@[simp] theorem vTupOf_r (i : Nat) : vTupOf [.r i] st = tupC (seqC st[i]?) st := by
  rw [← listOf_r]; unfold vTupOf tupC; rfl
def lstR (o : Option (List P)) (st : List Cell) : Res W := match o with
  | some l => .ok (.p (.lst l)) st
  | none => .no
@[simp] theorem lstR_e (l : List P) : lstR (some l) st = .ok (.p (.lst l)) st := rfl
@[simp] theorem vLstOf_e (w : W) : vLstOf [w] st = lstR (seqP st w) st := by unfold vLstOf lstR; rfl
def lstCR (o : Option (List P)) (st : List Cell) : Res W := match o with
  | some l => .ok (.r st.length) (st ++ [.lst (l.map .p)])
  | none => .no
@[simp] theorem lstCR_e (l : List P) : lstCR (some l) st = .ok (.r st.length) (st ++ [.lst (l.map .p)]) := rfl
@[simp] theorem vLstOfC_e (w : W) : vLstOfC [w] st = lstCR (seqP st w) st := by unfold vLstOfC lstCR; rfl
def frzR (j : Nat) (c : Option Cell) (st : List Cell) : Res W := match c with
  | some (.lst l) => match pures l with
    | some m => .ok (.p (.lst m)) (st.set j .dead)
    | none => .no
  | _ => .no
def frzR2 (j : Nat) (o : Option (List P)) (st : List Cell) : Res W := match o with
    | some m => .ok (.p (.lst m)) (st.set j .dead)
    | none => .no
@[simp] theorem frzR2_e (j : Nat) (m : List P) : frzR2 j (some m) st = .ok (.p (.lst m)) (st.set j .dead) := rfl
@[simp] theorem frzR_e (j : Nat) (l : List W) : frzR j (some (.lst l)) st = frzR2 j (pures l) st := rfl
def frzW (w : W) (st1 : List Cell) : Res W := match w with
  | .p x => .ok (.p x) st1
  | .r i => frzR i st1[i]? st1
@[simp] theorem frzW_p (x : P) : frzW (.p x) st = .ok (.p x) st := rfl
@[simp] theorem frzW_r (i : Nat) : frzW (.r i) st = frzR i st[i]? st := rfl
@[simp] theorem mFrz_e (a : EM) : mFrz a σ st = (a σ st).bind frzW := by
  unfold mFrz frzW frzR; rfl
def tyC (c : Option Cell) : Option String := match c with
    | some (.lst _) => some "list"
    | some (.dk _ _) => some "dict"
    | _ => none
@[simp] theorem tyC_e (l : List W) : tyC (some (.lst l)) = some "list" := rfl
@[simp] theorem tyW_r (i : Nat) : tyW st (.r i) = tyC st[i]? := rfl
@[simp] theorem tyW_str (z : Str) : tyW st (.p (.str z)) = some "str" := rfl
def apC (i : Nat) (x : W) (c : Option Cell) (st : List Cell) : Res W := match c with
    | some (.lst l) => if l.length < 1000000 then .ok (.p .non) (st.set i (.lst (l ++ [x]))) else .no
    | _ => .no
@[simp] theorem apC_e (i : Nat) (x : W) (l : List W) : apC i x (some (.lst l)) st = if l.length < 1000000 then .ok (.p .non) (st.set i (.lst (l ++ [x]))) else .no := rfl
@[simp] theorem vAppend_e (i : Nat) (x : W) : vAppend (.r i) [x] st = apC i x st[i]? st := by unfold vAppend apC; rfl
def insC (i : Nat) (k : Int) (x : W) (c : Option Cell) (st : List Cell) : Res W := match c with
    | some (.lst l) => if l.length < 1000000 ∧ 0 ≤ k ∧ k ≤ 1000000 then .ok (.p .non) (st.set i (.lst (l.take k.toNat ++ [x] ++ l.drop k.toNat))) else .no
    | _ => .no
@[simp] theorem insC_e (i : Nat) (k : Int) (x : W) (l : List W) : insC i k x (some (.lst l)) st = if l.length < 1000000 ∧ 0 ≤ k ∧ k ≤ 1000000 then .ok (.p .non) (st.set i (.lst (l.take k.toNat ++ [x] ++ l.drop k.toNat))) else .no := rfl
@[simp] theorem vInsert_e (i : Nat) (k : Int) (x : W) : vInsert (.r i) [.p (.int k), x] st = insC i k x st[i]? st := by unfold vInsert insC; rfl

/-! ### a try whose body raises nothing -/
@[simp] theorem SR.nox_ok (f : Fl) : (SR.ok f σ st).nox = .ok f σ st := rfl
@[simp] theorem SR.nox_no : SR.no.nox = .no := rfl
@[simp] theorem sTry0_e (b : SMm) : sTry0 b σ st = (b σ st).nox := rfl

/-! ### keywords -/
def kwF (F : FM) (ix : List Nat) (n : Nat) (us ws : List W) (st2 : List Cell) : Res W := if ws.length = n then (callF F (gI ix us ws) st2).nox else .no
@[simp] theorem kwF_e (F : FM) (ix : List Nat) (n : Nat) (us ws : List W) : kwF F ix n us ws st = if ws.length = n then (callF F (gI ix us ws) st).nox else .no := rfl
@[simp] theorem mCallKw_e (F : FM) (ix : List Nat) (n : Nat) (a : AM) : mCallKw F ix n a σ st = (a σ st).bind (kwF F ix n []) := rfl
def kwM (c n : Nat) (F : FM) (ix : List Nat) (nk : Nat) (ws : List W) (st1 : List Cell) : Res W := if ws.length = nk then makeF c n F (gI ix [] ws) st1 else .no
@[simp] theorem kwM_e (c n : Nat) (F : FM) (ix : List Nat) (nk : Nat) (ws : List W) : kwM c n F ix nk ws st = if ws.length = nk then makeF c n F (gI ix [] ws) st else .no := rfl
@[simp] theorem mMakeKw_e (c n : Nat) (F : FM) (ix : List Nat) (nk : Nat) (a : AM) : mMakeKw c n F ix nk a σ st = (a σ st).bind (kwM c n F ix nk) := rfl
def kwR (ok : Bool) (F : FM) (ix : List Nat) (n : Nat) (w : W) (r : Res (List W)) : Res W := if ok = true then r.bind (kwF F ix n [w]) else .no
@[simp] theorem kwR_e (F : FM) (ix : List Nat) (n : Nat) (w : W) (r : Res (List W)) : kwR true F ix n w r = r.bind (kwF F ix n [w]) := rfl
def kwK (c : Nat) (F : FM) (ix : List Nat) (n : Nat) (a : AM) (σ : Sg) (w : W) (st1 : List Cell) : Res W := kwR (decide (clsOf st1 w = some c)) F ix n w (a σ st1)
@[simp] theorem kwK_e (c : Nat) (F : FM) (ix : List Nat) (n : Nat) (a : AM) (w : W) : kwK c F ix n a σ w st = kwR (decide (clsOf st w = some c)) F ix n w (a σ st) := rfl
@[simp] theorem mMethKw_e (c : Nat) (F : FM) (ix : List Nat) (n : Nat) (o : EM) (a : AM) : mMethKw c F ix n o a σ st = (o σ st).bind (kwK c F ix n a σ) := by
  unfold mMethKw
  congr 1; funext w st1
  unfold kwK kwR
  by_cases h : clsOf st1 w = some c
  · simp only [h, if_true, decide_true]; rfl
  · simp only [h, if_false, decide_false]; rfl
@[simp] theorem gI_e (ix : List Nat) (us ws : List W) : gI ix us ws = us ++ ix.filterMap fun i => ws[i]? := rfl

/-! ### ==, in -/
@[simp] theorem vEqB_int (n : Bool) (i j : Int) : vEqB n (.p (.int i)) (.p (.int j)) st = .ok (.p (.bl (if n = true then !(i == j) else (i == j)))) st := rfl
@[simp] theorem vEqB_bl (n : Bool) (i j : Bool) : vEqB n (.p (.bl i)) (.p (.bl j)) st = .ok (.p (.bl (if n = true then !(i == j) else (i == j)))) st := rfl
@[simp] theorem vEqB_str (n : Bool) (i j : Str) : vEqB n (.p (.str i)) (.p (.str j)) st = .ok (.p (.bl (if n = true then !(i == j) else (i == j)))) st := rfl
@[simp] theorem vIsN_non (n : Bool) : vIsN n (.p .non) (.p .non) st = .ok (.p (.bl (!n))) st := rfl
@[simp] theorem vIsN_bl (n b : Bool) : vIsN n (.p (.bl b)) (.p .non) st = .ok (.p (.bl n)) st := rfl
@[simp] theorem vIsN_int (n : Bool) (b : Int) : vIsN n (.p (.int b)) (.p .non) st = .ok (.p (.bl n)) st := rfl
@[simp] theorem vIsN_str (n : Bool) (b : Str) : vIsN n (.p (.str b)) (.p .non) st = .ok (.p (.bl n)) st := rfl
@[simp] theorem vIsN_tup (n : Bool) (b : List P) : vIsN n (.p (.tup b)) (.p .non) st = .ok (.p (.bl n)) st := rfl
@[simp] theorem vIsN_lst (n : Bool) (b : List P) : vIsN n (.p (.lst b)) (.p .non) st = .ok (.p (.bl n)) st := rfl
@[simp] theorem vIsN_obj (n : Bool) (c : Nat) (b : List P) : vIsN n (.p (.obj c b)) (.p .non) st = .ok (.p (.bl n)) st := rfl
@[simp] theorem vIsN_r (n : Bool) (i : Nat) : vIsN n (.r i) (.p .non) st = .ok (.p (.bl n)) st := rfl
theorem strs_flat {l : List Str} : (l.map P.str).all flatP = true := by
  induction l with
  | nil => rfl
  | cons a l ih => rw [List.map_cons, List.all_cons, ih]; rfl
theorem inP_str {x : Str} {l : List Str} : inP (.str x) (l.map P.str) = l.any (fun y => y == x) := by
  induction l with
  | nil => rfl
  | cons a l ih =>
    unfold inP at ih ⊢
    rw [List.map_cons, List.any_cons, List.any_cons, ih]; rfl
def inR (n : Bool) (x : P) (o : Option (List P)) (st : List Cell) : Res W := match o with
  | some l => if flatP x = true ∧ l.all flatP = true then .ok (.p (.bl (if n = true then !inP x l else inP x l))) st else .no
  | none => .no
/-- a text in a tuple or list of texts -/
@[simp] theorem vInB_tup (n : Bool) (x : Str) (l : List P) (h : l.all flatP = true) : vInB n (.p (.str x)) (.p (.tup l)) st = .ok (.p (.bl (if n = true then !inP (.str x) l else inP (.str x) l))) st := by
  unfold vInB
  simp only [seqP_tup]
  rw [if_pos ⟨rfl, h⟩]
@[simp] theorem vInB_lst (n : Bool) (x : Str) (l : List P) (h : l.all flatP = true) : vInB n (.p (.str x)) (.p (.lst l)) st = .ok (.p (.bl (if n = true then !inP (.str x) l else inP (.str x) l))) st := by
  unfold vInB
  simp only [seqP_lst]
  rw [if_pos ⟨rfl, h⟩]
@[simp] theorem flatP_str (s : Str) : flatP (.str s) = true := rfl
@[simp] theorem flatP_int (s : Int) : flatP (.int s) = true := rfl
@[simp] theorem flatP_bl (s : Bool) : flatP (.bl s) = true := rfl
@[simp] theorem flatP_non : flatP .non = true := rfl
@[simp] theorem inP_nil (x : P) : inP x [] = false := rfl
@[simp] theorem inP_cons (x y : P) (l : List P) : inP x (y :: l) = (eqF y x || inP x l) := rfl
@[simp] theorem eqF_str (x y : Str) : eqF (.str x) (.str y) = (x == y) := rfl
@[simp] theorem eqF_int (x y : Int) : eqF (.int x) (.int y) = (x == y) := rfl

@[simp] theorem vAdd_lst (l m : List P) : vAdd (.p (.lst l)) (.p (.lst m)) st = if l.length + m.length ≤ 1000000 then .ok (.p (.lst (l ++ m))) st else .no := rfl
@[simp] theorem vAdd_tup (l m : List P) : vAdd (.p (.tup l)) (.p (.tup m)) st = if l.length + m.length ≤ 1000000 then .ok (.p (.tup (l ++ m))) st else .no := rfl
@[simp] theorem vAdd_str (l m : Str) : vAdd (.p (.str l)) (.p (.str m)) st = if l.length + m.length ≤ 1000000 then .ok (.p (.str (l ++ m))) st else .no := rfl
@[simp] theorem vIadd_str (l m : Str) : vIadd (.p (.str l)) (.p (.str m)) st = if l.length + m.length ≤ 1000000 then .ok (.p (.str (l ++ m))) st else .no := rfl
@[simp] theorem Str.len_append (a b : Str) : (a ++ b).length = a.length + b.length := by
  show (a.cps ++ b.cps).size = _
  rw [Array.size_append]; rfl
@[simp] theorem Str.len_empty : Str.empty.length = 0 := rfl
/-- data that == takes, no deeper than that -/
def okP : Nat → P → Bool
  | _, .non => true
  | _, .bl _ => true
  | _, .int _ => true
  | _, .str s => PyData.strOk s
  | n + 1, .tup l => l.all (okP n)
  | n + 1, .lst l => l.all (okP n)
  | _, _ => false
theorem okP_all {n : Nat} (ih : ∀ x, okP n x = true → ∃ d, toD x = some d ∧ d.canLay0 = true ∧ d.depth ≤ n) : ∀ {l : List P}, l.all (okP n) = true → ∃ ds, toDs l = some ds ∧ PyData.canLayAll0 ds = true ∧ PyData.depthAll ds ≤ n ∧ ds.length = l.length
  | [], _ => ⟨[], rfl, rfl, Nat.zero_le _, rfl⟩
  | x :: l, h => by
    rw [List.all_cons, Bool.and_eq_true] at h
    obtain ⟨d, e1, e2, e3⟩ := ih x h.1
    obtain ⟨ds, f1, f2, f3, f4⟩ := okP_all ih h.2
    refine ⟨d :: ds, by rw [toDs, e1, f1], ?_, ?_, by simp [f4]⟩
    · rw [PyData.canLayAll0, e2, f2]; rfl
    · rw [PyData.depthAll]; exact Nat.max_le.mpr ⟨e3, f3⟩
theorem okP_toD : ∀ (n : Nat) (x : P), okP n x = true → ∃ d, toD x = some d ∧ d.canLay0 = true ∧ d.depth ≤ n
  | n, .non, _ => ⟨.none, by rw [toD], by rw [PyData.canLay0], by rw [PyData.depth]; exact Nat.zero_le _⟩
  | n, .bl b, _ => ⟨.bool b, by rw [toD], by rw [PyData.canLay0], by rw [PyData.depth]; exact Nat.zero_le _⟩
  | n, .int i, _ => ⟨.int i, by rw [toD], by rw [PyData.canLay0], by rw [PyData.depth]; exact Nat.zero_le _⟩
  | n, .str s, h => ⟨.str s, by rw [toD], by
      rw [PyData.canLay0]; cases n <;> (rw [okP] at h; exact h), by rw [PyData.depth]; exact Nat.zero_le _⟩
  | 0, .tup l, h => by rw [okP] at h <;> first | cases h | (intros; contradiction)
  | 0, .lst l, h => by rw [okP] at h <;> first | cases h | (intros; contradiction)
  | n + 1, .tup l, h => by
    rw [okP] at h
    obtain ⟨ds, f1, f2, f3, f4⟩ := okP_all (okP_toD n) h
    refine ⟨.tuple ds, by rw [toD, f1], by rw [PyData.canLay0]; exact f2, ?_⟩
    rw [PyData.depth]; omega
  | n + 1, .lst l, h => by
    rw [okP] at h
    obtain ⟨ds, f1, f2, f3, f4⟩ := okP_all (okP_toD n) h
    refine ⟨.list ds, by rw [toD, f1], by rw [PyData.canLay0]; exact f2, ?_⟩
    rw [PyData.depth]; omega
  | n, .scr _, h => by cases n <;> (rw [okP] at h <;> first | cases h | (intros; contradiction))
  | n, .dk _ _, h => by cases n <;> (rw [okP] at h <;> first | cases h | (intros; contradiction))
  | n, .obj _ _, h => by cases n <;> (rw [okP] at h <;> first | cases h | (intros; contradiction))
  | n, .exn _ _, h => by cases n <;> (rw [okP] at h <;> first | cases h | (intros; contradiction))
mutual
def pEq : P → P → Bool
  | .non, .non => true
  | .bl a, .bl b => a == b
  | .bl a, .int j => (if a then 1 else 0) == j
  | .int i, .bl b => i == (if b then 1 else 0)
  | .int i, .int j => i == j
  | .str x, .str y => x == y
  | .lst l, .lst m => pEqs l m
  | .tup l, .tup m => pEqs l m
  | _, _ => false
def pEqs : List P → List P → Bool
  | [], [] => true
  | x :: l, y :: m => pEq x y && pEqs l m
  | _, _ => false
end
@[simp] theorem okP_non (n : Nat) : okP n .non = true := by cases n <;> rfl
@[simp] theorem okP_bl (n : Nat) (b : Bool) : okP n (.bl b) = true := by cases n <;> rfl
@[simp] theorem okP_int (n : Nat) (b : Int) : okP n (.int b) = true := by cases n <;> rfl
@[simp] theorem okP_str (n : Nat) (b : Str) : okP n (.str b) = PyData.strOk b := by cases n <;> rfl
@[simp] theorem okP_tup {n : Nat} (h : 0 < n) (l : List P) : okP n (.tup l) = l.all (okP (n - 1)) := by
  cases n with
  | zero => omega
  | succ n => rfl
@[simp] theorem okP_lst {n : Nat} (h : 0 < n) (l : List P) : okP n (.lst l) = l.all (okP (n - 1)) := by
  cases n with
  | zero => omega
  | succ n => rfl
@[simp] theorem strOk_ofS (a : String) : PyData.strOk (Str.ofString a) = true := by
  rw [Str.ofString_eq_toList]
  unfold PyData.strOk
  simp only [List.all_toArray, List.all_map, List.all_eq_true]
  intro c _
  have h := c.valid
  simp only [Function.comp_apply, decide_eq_true_eq]
  show c.val.toNat < _
  rcases h with h | ⟨_, h⟩
  · have : c.val.toNat < 55296 := h
    omega
  · have : c.val.toNat < 1114112 := h
    omega
@[simp] theorem pEqs_nil : pEqs [] [] = true := by rw [pEqs]
@[simp] theorem pEqs_cons (x y : P) (l m : List P) : pEqs (x :: l) (y :: m) = (pEq x y && pEqs l m) := by rw [pEqs]
@[simp] theorem pEqs_nc (y : P) (m : List P) : pEqs [] (y :: m) = false := by rw [pEqs] <;> simp
@[simp] theorem pEqs_cn (y : P) (m : List P) : pEqs (y :: m) [] = false := by rw [pEqs] <;> simp
@[simp] theorem pEq_int (i j : Int) : pEq (.int i) (.int j) = (i == j) := by rw [pEq]
@[simp] theorem pEq_str (i j : Str) : pEq (.str i) (.str j) = (i == j) := by rw [pEq]
@[simp] theorem pEq_bl (i j : Bool) : pEq (.bl i) (.bl j) = (i == j) := by rw [pEq]
@[simp] theorem pEq_tup (i j : List P) : pEq (.tup i) (.tup j) = pEqs i j := by rw [pEq]
@[simp] theorem pEq_lst (i j : List P) : pEq (.lst i) (.lst j) = pEqs i j := by rw [pEq]
theorem okP_shaped {n : Nat} (hn : n ≤ 64) {x : P} (h : okP n x = true) : ∃ d, toD x = some d ∧ SeqAt.shaped d = true := by
  obtain ⟨d, e1, e2, e3⟩ := okP_toD n x h
  exact ⟨d, e1, by unfold SeqAt.shaped; rw [e2, decide_eq_true (Nat.le_trans e3 hn)]; rfl⟩
mutual
theorem pEq_toD : ∀ {x y : P} {d e : PyData}, toD x = some d → toD y = some e → PyData.eqv d e = pEq x y
  | x, y, d, e, hx, hy => by
    cases x with
    | non => rw [toD] at hx; cases hx; cases y <;> simp only [toD] at hy <;> first | (cases hy; rw [PyData.eqv, pEq] <;> simp) | (split at hy <;> cases hy <;> (rw [PyData.eqv, pEq] <;> simp)) | cases hy
    | bl b => rw [toD] at hx; cases hx; cases y <;> simp only [toD] at hy <;> first | (cases hy; rw [PyData.eqv, pEq] <;> simp) | (split at hy <;> cases hy <;> (rw [PyData.eqv, pEq] <;> simp)) | cases hy
    | int i => rw [toD] at hx; cases hx; cases y <;> simp only [toD] at hy <;> first | (cases hy; rw [PyData.eqv, pEq] <;> simp) | (split at hy <;> cases hy <;> (rw [PyData.eqv, pEq] <;> simp)) | cases hy
    | str z => rw [toD] at hx; cases hx; cases y <;> simp only [toD] at hy <;> first | (cases hy; rw [PyData.eqv, pEq] <;> simp) | (split at hy <;> cases hy <;> (rw [PyData.eqv, pEq] <;> simp)) | cases hy
    | tup l =>
      rw [toD] at hx
      split at hx
      · rename_i ds e1
        cases hx
        cases y with
        | tup m =>
          rw [toD] at hy
          split at hy
          · rename_i es e2
            cases hy
            rw [PyData.eqv, pEq, pEqs_toD e1 e2]
          · cases hy
        | lst m => rw [toD] at hy; split at hy <;> cases hy; rw [PyData.eqv, pEq] <;> simp
        | non => rw [toD] at hy; cases hy; rw [PyData.eqv, pEq] <;> simp
        | bl b => rw [toD] at hy; cases hy; rw [PyData.eqv, pEq] <;> simp
        | int b => rw [toD] at hy; cases hy; rw [PyData.eqv, pEq] <;> simp
        | str b => rw [toD] at hy; cases hy; rw [PyData.eqv, pEq] <;> simp
        | scr b => rw [toD] at hy; cases hy
        | dk b c => rw [toD] at hy; cases hy
        | obj b c => rw [toD] at hy; cases hy
        | exn b c => rw [toD] at hy; cases hy
      · cases hx
    | lst l =>
      rw [toD] at hx
      split at hx
      · rename_i ds e1
        cases hx
        cases y with
        | lst m =>
          rw [toD] at hy
          split at hy
          · rename_i es e2
            cases hy
            rw [PyData.eqv, pEq, pEqs_toD e1 e2]
          · cases hy
        | tup m => rw [toD] at hy; split at hy <;> cases hy; rw [PyData.eqv, pEq] <;> simp
        | non => rw [toD] at hy; cases hy; rw [PyData.eqv, pEq] <;> simp
        | bl b => rw [toD] at hy; cases hy; rw [PyData.eqv, pEq] <;> simp
        | int b => rw [toD] at hy; cases hy; rw [PyData.eqv, pEq] <;> simp
        | str b => rw [toD] at hy; cases hy; rw [PyData.eqv, pEq] <;> simp
        | scr b => rw [toD] at hy; cases hy
        | dk b c => rw [toD] at hy; cases hy
        | obj b c => rw [toD] at hy; cases hy
        | exn b c => rw [toD] at hy; cases hy
      · cases hx
    | scr _ => rw [toD] at hx; cases hx
    | dk _ _ => rw [toD] at hx; cases hx
    | obj _ _ => rw [toD] at hx; cases hx
    | exn _ _ => rw [toD] at hx; cases hx
theorem pEqs_toD : ∀ {l m : List P} {ds es : List PyData}, toDs l = some ds → toDs m = some es → PyData.eqvAll ds es = pEqs l m
  | [], [], ds, es, h1, h2 => by rw [toDs] at h1 h2; cases h1; cases h2; rw [PyData.eqvAll, pEqs]
  | [], y :: m, ds, es, h1, h2 => by
    rw [toDs] at h1; rw [toDs] at h2; cases h1
    split at h2
    · cases h2; rw [PyData.eqvAll, pEqs] <;> simp
    · cases h2
  | x :: l, [], ds, es, h1, h2 => by
    rw [toDs] at h1; rw [toDs] at h2; cases h2
    split at h1
    · cases h1; rw [PyData.eqvAll, pEqs] <;> simp
    · cases h1
  | x :: l, y :: m, ds, es, h1, h2 => by
    rw [toDs] at h1; rw [toDs] at h2
    split at h1
    · rename_i d ds' e1 e2
      cases h1
      split at h2
      · rename_i e es' f1 f2
        cases h2
        rw [PyData.eqvAll, pEqs, pEq_toD e1 f1, pEqs_toD e2 f2]
      · cases h2
    · cases h1
end
theorem vEqB_data {n : Bool} {x y : P} (h : okP 64 x = true) (h2 : okP 64 y = true) : vEqB n (.p x) (.p y) st = .ok (.p (.bl (if n = true then !pEq x y else pEq x y))) st := by
  obtain ⟨d, e1, e2⟩ := okP_shaped (Nat.le_refl _) h
  obtain ⟨e, f1, f2⟩ := okP_shaped (Nat.le_refl _) h2
  unfold vEqB
  cases hs : eqW (.p x) (.p y) with
  | some k =>
    have : pEq x y = k := by
      have hs : eqS x y = some k := hs
      cases x <;> cases y <;> first | (unfold eqS at hs; cases hs; done) | (cases hs; rw [pEq] <;> simp)
    rw [this]
  | none =>
    unfold unD
    simp only [unC_p, Option.bind_some, e1, f1]
    rw [if_pos ⟨e2, f2⟩, pEq_toD e1 f1]
theorem vEqB_nilT {n : Bool} {l : List P} (h : okP 64 (.tup l) = true) : vEqB n (.p (.tup l)) (.p (.tup [])) st = .ok (.p (.bl (if n = true then !l.isEmpty else l.isEmpty))) st := by
  obtain ⟨d, e1, e2⟩ := okP_shaped (Nat.le_refl _) h
  obtain ⟨ds, f1, _, _, f4⟩ := okP_all (okP_toD 63) (show l.all (okP 63) = true by rw [okP] at h; exact h)
  have e3 : toD (.tup l) = some (.tuple ds) := by rw [toD, f1]
  rw [e1] at e3; cases e3
  have e4 : toD (.tup []) = some (.tuple []) := by rw [toD]; rfl
  unfold vEqB
  have e5 : eqW (.p (.tup l)) (.p (.tup [])) = none := rfl
  rw [e5]
  unfold unD
  simp only [unC_p, Option.bind_some, e1, e4]
  rw [if_pos ⟨e2, by decide⟩]
  have : PyData.eqv (.tuple ds) (.tuple []) = l.isEmpty := by
    cases ds with
    | nil => cases l with
      | nil => rw [PyData.eqv, PyData.eqvAll]; rfl
      | cons a l => cases f4
    | cons d ds => cases l with
      | nil => cases f4
      | cons a l => rw [PyData.eqv, PyData.eqvAll]; rfl
  rw [this]

/-! ### dict displays, join -/
def dispR (ks : List Str) (o : Option (List P)) (st1 : List Cell) : Res W := match o with
  | some l => .ok (.p (.dk (ks.map .inr) l)) st1
  | none => .no
@[simp] theorem dispR_e (ks : List Str) (l : List P) : dispR ks (some l) st = .ok (.p (.dk (ks.map .inr) l)) st := rfl
def dispK (ks : List Str) (ws : List W) (st1 : List Cell) : Res W := dispR ks (pures ws) st1
@[simp] theorem dispK_e (ks : List Str) (ws : List W) : dispK ks ws st = dispR ks (pures ws) st := rfl
@[simp] theorem mDisp_e (ks : List Str) (ms : List EM) : mDisp ks ms σ st = (amOf ms σ st).nox.bind (dispK ks) := rfl
@[simp] theorem amOf_nil : amOf [] σ st = .ok [] st := rfl
@[simp] theorem amOf_cons (m : EM) (ms : List EM) : amOf (m :: ms) σ st = (m σ st).bind (consK (amOf ms) σ) := rfl
def dgetP (o : Option P) (st2 : List Cell) : Res W := match o with
  | some z => .ok (.p z) st2
  | none => .no
@[simp] theorem dgetP_e (z : P) : dgetP (some z) st = .ok (.p z) st := rfl
def dgetK2 (w x : W) (st2 : List Cell) : Res W := match w, x with
  | .p (.dk ks l), .p y => dgetP ((keyP y).bind fun k => dkGet ks l k) st2
  | _, _ => .no
@[simp] theorem dgetK2_s (ks : List Key) (l : List P) (z : Str) : dgetK2 (.p (.dk ks l)) (.p (.str z)) st = dgetP (dkGet ks l (.inr z)) st := rfl
@[simp] theorem dgetK2_i (ks : List Key) (l : List P) (z : Int) : dgetK2 (.p (.dk ks l)) (.p (.int z)) st = dgetP (dkGet ks l (.inl z)) st := rfl
def dgetK (a : EM) (σ : Sg) (w : W) (st1 : List Cell) : Res W := (a σ st1).bind (dgetK2 w)
@[simp] theorem dgetK_e (a : EM) (w : W) : dgetK a σ w st = (a σ st).bind (dgetK2 w) := rfl
@[simp] theorem mDGet_e (o a : EM) : mDGet o a σ st = (o σ st).bind (dgetK a σ) := by
  unfold mDGet
  congr 1; funext w st1
  unfold dgetK
  congr 1; funext x st2
  unfold dgetK2
  cases w with
  | r i => rfl
  | p y => cases y <;> cases x <;> try rfl
           simp only
           rename_i ks l y
           cases keyP y with
           | none => rfl
           | some k => simp only [Option.bind_some]; cases dkGet ks l k <;> rfl
@[simp] theorem dkGet_nil (l : List P) (k : Key) : dkGet [] l k = none := rfl
@[simp] theorem dkGet_cons (k0 : Key) (ks : List Key) (x : P) (l : List P) (k : Key) : dkGet (k0 :: ks) (x :: l) k = if k0 = k then some x else dkGet ks l k := by
  unfold dkGet
  rw [List.zip_cons_cons, List.find?_cons]
  by_cases h : k0 = k <;> simp [h]
theorem strsOf_map (l : List Str) : strsOf (l.map P.str) = some l := by
  induction l with
  | nil => rfl
  | cons b l ih => rw [List.map_cons, strsOf, ih]
@[simp] theorem strsOf_nil : strsOf [] = some [] := rfl
@[simp] theorem strsOf_cons (s : Str) (l : List P) : strsOf (.str s :: l) = (strsOf l).map (s :: ·) := by
  rw [strsOf]; cases strsOf l <;> rfl
@[simp] theorem strsOf_mapB {α : Type} (l : List α) (f : α → Str) : strsOf (l.map fun x => P.str (f x)) = some (l.map f) := by
  have := strsOf_map (l.map f)
  rwa [List.map_map] at this
@[simp] theorem strsOf_mapC {α : Type} (l : List α) (f : α → Str) : strsOf (l.map (P.str ∘ f)) = some (l.map f) := strsOf_mapB l f
def joinR (a : Str) (o : Option (List Str)) (st : List Cell) : Res W := match o with
  | some ys => if (ys.map (·.length)).sum + ys.length * a.length ≤ 1000000 then .ok (.p (.str (Txt.join a ys))) st else .no
  | none => .no
@[simp] theorem joinR_e (a : Str) (ys : List Str) : joinR a (some ys) st = if (ys.map (·.length)).sum + ys.length * a.length ≤ 1000000 then .ok (.p (.str (Txt.join a ys))) st else .no := rfl
@[simp] theorem vJoin_e (a : Str) (w : W) : vJoin (.p (.str a)) [w] st = joinR a ((seqP st w).bind strsOf) st := by unfold vJoin joinR; rfl

/-! ### loops over lists -/
def forL (t : Tg) (b : SMm) : List W → Sg → List Cell → SR
  | [], σ, st => .ok .nx σ st
  | w :: l, σ, st => match t.put w σ with
    | none => .no
    | some σ1 => match b σ1 st with
        | .ok .nx σ2 st2 => forL t b l σ2 st2
        | .ok .ct σ2 st2 => forL t b l σ2 st2
        | .ok .bk σ2 st2 => .ok .nx σ2 st2
        | r => r
theorem forF_go {l : List W} (get : List Cell → Nat → Option (Option W)) (t : Tg) (b : SMm) (n0 : Nat) (hg : ∀ st i, i ≤ l.length → get st i = some l[i]?) : ∀ (n i : Nat) (σ : Sg) (st : List Cell), i ≤ l.length → l.length - i < n → forF ⟨get, n0⟩ t b n i σ st = forL t b (l.drop i) σ st := by
  intro n
  induction n with
  | zero => intro i σ st hi h; omega
  | succ n ih =>
    intro i σ st hi h
    rw [forF]
    show (match get st i with | none => SR.no | some none => .ok .nx σ st | some (some w) => _) = _
    rw [hg st i hi]
    by_cases hl : i < l.length
    · rw [List.getElem?_eq_getElem hl, List.drop_eq_getElem_cons hl, forL]
      simp only
      cases t.put l[i] σ with
      | none => rfl
      | some σ1 =>
        simp only
        have e : ∀ σ2 st2, forF ⟨get, n0⟩ t b n (i + 1) σ2 st2 = forL t b (l.drop (i + 1)) σ2 st2 := fun σ2 st2 => ih (i + 1) σ2 st2 (by omega) (by omega)
        cases b σ1 st with
        | ok f σ2 st2 => cases f <;> simp only [e]
        | exc _ _ _ => rfl
        | no => rfl
    · rw [List.getElem?_eq_none (by omega), List.drop_of_length_le (by omega), forL]
theorem forF_srcL (l : List W) (t : Tg) (b : SMm) (σ : Sg) (st : List Cell) : forF (srcL l) t b (l.length + 1) 0 σ st = forL t b l σ st := by
  have := forF_go (l := l) (fun _ i => some l[i]?) t b l.length (fun _ _ _ => rfl) (l.length + 1) 0 σ st (by omega) (by omega)
  rw [List.drop_zero] at this
  exact this
theorem forF_srcZ (l : List W) (t : Tg) (b : SMm) (σ : Sg) (st : List Cell) : forF (srcZ l) t b (l.length + 1) 0 σ st = forL t b l σ st := by
  have := forF_go (l := l) (fun _ i => if i ≤ l.length then some l[i]? else none) t b l.length (fun _ i hi => if_pos hi) (l.length + 1) 0 σ st (by omega) (by omega)
  rw [List.drop_zero] at this
  exact this
@[simp] theorem srcL_n (l : List W) : (srcL l).n = l.length := rfl
@[simp] theorem srcZ_n (l : List W) : (srcZ l).n = l.length := rfl
def sforK (t : Tg) (b : SMm) (σ : Sg) (src : Src) (st1 : List Cell) : SR := forF src t b (src.n + 1) 0 σ st1
theorem sforK_e (t : Tg) (b : SMm) (src : Src) : sforK t b σ src st = forF src t b (src.n + 1) 0 σ st := rfl
@[simp] theorem sFor_e (m : IM) (t : Tg) (b : SMm) : sFor m t b σ st = (m σ st).to σ (sforK t b σ) := rfl
def forK (t : Tg) (b : SMm) (l : List W) (r : SR) : SR := match r with
        | .ok .nx σ2 st2 => forL t b l σ2 st2
        | .ok .ct σ2 st2 => forL t b l σ2 st2
        | .ok .bk σ2 st2 => .ok .nx σ2 st2
        | r => r
def forP (t : Tg) (b : SMm) (l : List W) (st : List Cell) (o : Option Sg) : SR := match o with
  | none => .no
  | some σ1 => forK t b l (b σ1 st)
@[simp] theorem forL_nil (t : Tg) (b : SMm) : forL t b [] σ st = .ok .nx σ st := rfl
@[simp] theorem forL_cons (t : Tg) (b : SMm) (w : W) (l : List W) : forL t b (w :: l) σ st = forP t b l st (t.put w σ) := by
  rw [forL]; unfold forP forK; rfl
@[simp] theorem forP_e (t : Tg) (b : SMm) (l : List W) : forP t b l st (some σ) = forK t b l (b σ st) := rfl
@[simp] theorem forK_nx (t : Tg) (b : SMm) (l : List W) : forK t b l (.ok .nx σ st) = forL t b l σ st := rfl
@[simp] theorem forK_ct (t : Tg) (b : SMm) (l : List W) : forK t b l (.ok .ct σ st) = forL t b l σ st := rfl
@[simp] theorem forK_bk (t : Tg) (b : SMm) (l : List W) : forK t b l (.ok .bk σ st) = .ok .nx σ st := rfl
@[simp] theorem forK_rt (t : Tg) (b : SMm) (l : List W) (w : W) : forK t b l (.ok (.rt w) σ st) = .ok (.rt w) σ st := rfl
@[simp] theorem forK_no (t : Tg) (b : SMm) (l : List W) : forK t b l .no = .no := rfl
@[simp] theorem forK_ite (t : Tg) (b : SMm) (l : List W) {c : Prop} [Decidable c] (x y : SR) : forK t b l (if c then x else y) = if c then forK t b l x else forK t b l y := by split <;> rfl
def stepO (b : SMm) (st : List Cell) (o : Option Sg) : SR := match o with
  | some σ1 => b σ1 st
  | none => .no
@[simp] theorem stepO_e (b : SMm) : stepO b st (some σ) = b σ st := rfl
/-- one turn -/
def stepS (t : Tg) (b : SMm) (w : W) (σ : Sg) (st : List Cell) : SR := stepO b st (t.put w σ)
@[simp] theorem stepS_nm (i : Nat) (b : SMm) (w : W) : stepS (.nm i) b w σ st = b (σ.set i (some w)) st := by unfold stepS; simp
@[simp] theorem stepS_tp (ts : List Tg) (b : SMm) (l : List P) : stepS (.tp ts) b (.p (.tup l)) σ st = stepO b st (Tg.puts ts l σ) := by unfold stepS; simp
/-- a turn's end: on to the next, or out -/
def Sq (I : Sg → List Cell → Prop) (F : SR → Prop) (r : SR) : Prop := match r with
  | .ok .nx σ st => I σ st
  | .ok .ct σ st => I σ st
  | .ok .bk σ st => F (.ok .nx σ st)
  | .ok (.rt w) σ st => F (.ok (.rt w) σ st)
  | _ => False
@[simp] theorem Sq_nx (I : Sg → List Cell → Prop) (F : SR → Prop) : Sq I F (.ok .nx σ st) = I σ st := rfl
@[simp] theorem Sq_ct (I : Sg → List Cell → Prop) (F : SR → Prop) : Sq I F (.ok .ct σ st) = I σ st := rfl
@[simp] theorem Sq_bk (I : Sg → List Cell → Prop) (F : SR → Prop) : Sq I F (.ok .bk σ st) = F (.ok .nx σ st) := rfl
@[simp] theorem Sq_rt (I : Sg → List Cell → Prop) (F : SR → Prop) (w : W) : Sq I F (.ok (.rt w) σ st) = F (.ok (.rt w) σ st) := rfl
@[simp] theorem Sq_no (I : Sg → List Cell → Prop) (F : SR → Prop) : Sq I F .no = False := rfl
@[simp] theorem Sq_ite (I : Sg → List Cell → Prop) (F : SR → Prop) {c : Prop} [Decidable c] (a b : SR) : Sq I F (if c then a else b) = if c then Sq I F a else Sq I F b := by split <;> rfl
/-- a loop by its invariant -/
theorem forL_rule {t : Tg} {b : SMm} (F : SR → Prop) (I : Nat → Sg → List Cell → Prop) : ∀ {l : List W} {σ : Sg} {st : List Cell}, I 0 σ st →
    (∀ (i : Nat) (w : W) σ st, l[i]? = some w → I i σ st → Sq (I (i + 1)) F (stepS t b w σ st)) → (∀ σ st, I l.length σ st → F (.ok .nx σ st)) → F (forL t b l σ st) := by
  have go : ∀ {l : List W} {k : Nat} {σ : Sg} {st : List Cell}, I k σ st → (∀ (i : Nat) (w : W) σ st, l[i]? = some w → I (k + i) σ st → Sq (I (k + i + 1)) F (stepS t b w σ st)) → (∀ σ st, I (k + l.length) σ st → F (.ok .nx σ st)) → F (forL t b l σ st) := by
    intro l
    induction l with
    | nil => intro k σ st h _ e; exact e σ st h
    | cons w l ih =>
      intro k σ st h s e
      have s0 := s 0 w σ st rfl h
      rw [forL_cons]
      unfold stepS at s0
      cases ep : t.put w σ with
      | none => rw [ep] at s0; exact s0.elim
      | some σ1 =>
        rw [ep, stepO_e] at s0
        rw [forP_e]
        have nxt : ∀ σ2 st2, I (k + 0 + 1) σ2 st2 → F (forL t b l σ2 st2) := fun σ2 st2 h2 => ih (k := k + 0 + 1) h2
          (fun i w' σ' st' g g2 => by
            have := s (i + 1) w' σ' st' (by simpa using g) (by rw [show k + (i + 1) = k + 0 + 1 + i by omega]; exact g2)
            rw [show k + (i + 1) + 1 = k + 0 + 1 + i + 1 by omega] at this
            exact this)
          (fun σ' st' g => e σ' st' (by rw [List.length_cons, show k + (l.length + 1) = k + 0 + 1 + l.length by omega]; exact g))
        cases hr : b σ1 st with
        | ok f σ2 st2 =>
          rw [hr] at s0
          cases f with
          | nx => exact nxt σ2 st2 s0
          | ct => exact nxt σ2 st2 s0
          | bk => exact s0
          | rt v => exact s0
        | exc _ _ _ => rw [hr] at s0; exact s0.elim
        | no => rw [hr] at s0; exact s0.elim
  intro l σ st h s e
  refine go (k := 0) h (fun i w σ st g g2 => ?_) (fun σ st g => e σ st (by rw [Nat.zero_add] at g; exact g))
  rw [Nat.zero_add] at g2 ⊢
  exact s i w σ st g g2

/-! ### comprehensions over lists -/
def lcL (t : Tg) (c : TM) (e : EM) (σ0 : Sg) : List W → List Cell → Res (List W)
  | [], st => .ok [] st
  | w :: l, st => match t.put w σ0 with
      | none => .no
      | some σ1 => (c σ1 st).nox.bind fun k st1 => if k = true then (e σ1 st1).nox.bind fun w st2 => (lcL t c e σ0 l st2).bind fun ws st3 => .ok (w :: ws) st3 else lcL t c e σ0 l st1
theorem lcF_go {l : List W} (get : List Cell → Nat → Option (Option W)) (t : Tg) (c : TM) (e : EM) (σ0 : Sg) (n0 : Nat) (hg : ∀ st i, i ≤ l.length → get st i = some l[i]?) : ∀ (n i : Nat) (st : List Cell), i ≤ l.length → l.length - i < n → lcF ⟨get, n0⟩ t c e σ0 n i st = lcL t c e σ0 (l.drop i) st := by
  intro n
  induction n with
  | zero => intro i st hi h; omega
  | succ n ih =>
    intro i st hi h
    rw [lcF]
    show (match get st i with | none => Res.no | some none => .ok [] st | some (some w) => _) = _
    rw [hg st i hi]
    by_cases hl : i < l.length
    · rw [List.getElem?_eq_getElem hl, List.drop_eq_getElem_cons hl, lcL]
      simp only
      cases t.put l[i] σ0 with
      | none => rfl
      | some σ1 =>
        simp only
        congr 1; funext k st1
        rw [ih (i + 1) st1 (by omega) (by omega)]
        by_cases hk : k = true
        · rw [if_pos hk, if_pos hk]
          congr 1; funext w st2
          rw [ih (i + 1) st2 (by omega) (by omega)]
        · rw [if_neg hk, if_neg hk]
    · rw [List.getElem?_eq_none (by omega), List.drop_of_length_le (by omega), lcL]
theorem lcF_srcL (l : List W) (t : Tg) (c : TM) (e : EM) (σ0 : Sg) (st : List Cell) : lcF (srcL l) t c e σ0 (l.length + 1) 0 st = lcL t c e σ0 l st := by
  have := lcF_go (l := l) (fun _ i => some l[i]?) t c e σ0 l.length (fun _ _ _ => rfl) (l.length + 1) 0 st (by omega) (by omega)
  rw [List.drop_zero] at this
  exact this
theorem lcF_srcZ (l : List W) (t : Tg) (c : TM) (e : EM) (σ0 : Sg) (st : List Cell) : lcF (srcZ l) t c e σ0 (l.length + 1) 0 st = lcL t c e σ0 l st := by
  have := lcF_go (l := l) (fun _ i => if i ≤ l.length then some l[i]? else none) t c e σ0 l.length (fun _ i hi => if_pos hi) (l.length + 1) 0 st (by omega) (by omega)
  rw [List.drop_zero] at this
  exact this
def lcK (t : Tg) (vs : List Nat) (c : TM) (e : EM) (fin : List W → List Cell → Res W) (σ : Sg) (src : Src) (st1 : List Cell) : Res W := if src.n ≤ 1000000 then (lcF src t c e (wipeS σ vs) (src.n + 1) 0 st1).bind fin else .no
theorem lcK_e (t : Tg) (vs : List Nat) (c : TM) (e : EM) (fin : List W → List Cell → Res W) (src : Src) : lcK t vs c e fin σ src st = if src.n ≤ 1000000 then (lcF src t c e (wipeS σ vs) (src.n + 1) 0 st).bind fin else .no := rfl
@[simp] theorem mLc_e (m : IM) (t : Tg) (vs : List Nat) (c : TM) (e : EM) (fin : List W → List Cell → Res W) : mLc m t vs c e fin σ st = (m σ st).bind (lcK t vs c e fin σ) := rfl
@[simp] theorem lcK_L (t : Tg) (vs : List Nat) (c : TM) (e : EM) (fin : List W → List Cell → Res W) (l : List W) : lcK t vs c e fin σ (srcL l) st = if l.length ≤ 1000000 then (lcL t c e (wipeS σ vs) l st).bind fin else .no := by
  rw [lcK_e, srcL_n, lcF_srcL]
@[simp] theorem lcK_Z (t : Tg) (vs : List Nat) (c : TM) (e : EM) (fin : List W → List Cell → Res W) (l : List W) : lcK t vs c e fin σ (srcZ l) st = if l.length ≤ 1000000 then (lcL t c e (wipeS σ vs) l st).bind fin else .no := by
  rw [lcK_e, srcZ_n, lcF_srcZ]
@[simp] theorem sforK_L (t : Tg) (b : SMm) (l : List W) : sforK t b σ (srcL l) st = forL t b l σ st := by
  rw [sforK_e, srcL_n, forF_srcL]
@[simp] theorem sforK_Z (t : Tg) (b : SMm) (l : List W) : sforK t b σ (srcZ l) st = forL t b l σ st := by
  rw [sforK_e, srcZ_n, forF_srcZ]
@[simp] theorem mYes_e : mYes σ st = .ok true st := rfl
@[simp] theorem wipeS_nil : wipeS σ [] = σ := rfl
@[simp] theorem wipeS_cons (v : Nat) (vs : List Nat) : wipeS σ (v :: vs) = (wipeS σ vs).set v none := rfl
@[simp] theorem finP_e (ws : List W) : finP ws st = pR (fun l => .p (.lst l)) (pures ws) st := by unfold finP pR; rfl
@[simp] theorem finC_e (ws : List W) : finC ws st = .ok (.r st.length) (st ++ [.lst ws]) := rfl
def lcP (t : Tg) (c : TM) (e : EM) (σ0 : Sg) (l : List W) (st : List Cell) (o : Option Sg) : Res (List W) := match o with
  | none => .no
  | some σ1 => (c σ1 st).nox.bind fun k st1 => if k = true then (e σ1 st1).nox.bind fun w st2 => (lcL t c e σ0 l st2).bind fun ws st3 => .ok (w :: ws) st3 else lcL t c e σ0 l st1
@[simp] theorem lcL_nil (t : Tg) (c : TM) (e : EM) (σ0 : Sg) : lcL t c e σ0 [] st = .ok [] st := rfl
@[simp] theorem lcL_cons (t : Tg) (c : TM) (e : EM) (σ0 : Sg) (w : W) (l : List W) : lcL t c e σ0 (w :: l) st = lcP t c e σ0 l st (t.put w σ0) := by
  rw [lcL]; unfold lcP; rfl
def lcC2 (t : Tg) (c : TM) (e : EM) (σ0 : Sg) (l : List W) (w : W) (st2 : List Cell) : Res (List W) := (lcL t c e σ0 l st2).bind (consK2 w)
@[simp] theorem lcC2_e (t : Tg) (c : TM) (e : EM) (σ0 : Sg) (l : List W) (w : W) : lcC2 t c e σ0 l w st = (lcL t c e σ0 l st).bind (consK2 w) := rfl
def lcC (t : Tg) (c : TM) (e : EM) (σ0 : Sg) (l : List W) (σ : Sg) (k : Bool) (st1 : List Cell) : Res (List W) := if k = true then (e σ st1).nox.bind (lcC2 t c e σ0 l) else lcL t c e σ0 l st1
@[simp] theorem lcC_e (t : Tg) (c : TM) (e : EM) (σ0 : Sg) (l : List W) (k : Bool) : lcC t c e σ0 l σ k st = if k = true then (e σ st).nox.bind (lcC2 t c e σ0 l) else lcL t c e σ0 l st := rfl
@[simp] theorem lcP_e (t : Tg) (c : TM) (e : EM) (σ0 : Sg) (l : List W) : lcP t c e σ0 l st (some σ) = (c σ st).nox.bind (lcC t c e σ0 l σ) := rfl
def El (I : W → List Cell → Prop) (r : Res W) : Prop := match r with
  | .ok w st => I w st
  | _ => False
@[simp] theorem El_ok (I : W → List Cell → Prop) (w : W) : El I (.ok w st) = I w st := rfl
@[simp] theorem El_no (I : W → List Cell → Prop) : El I .no = False := rfl
@[simp] theorem El_ite (I : W → List Cell → Prop) {c : Prop} [Decidable c] (a b : Res W) : El I (if c then a else b) = if c then El I a else El I b := by split <;> rfl
def stepP (e : EM) (st : List Cell) (o : Option Sg) : Res W := match o with
  | some σ1 => e σ1 st
  | none => .no
@[simp] theorem stepP_e (e : EM) : stepP e st (some σ) = e σ st := rfl
def stepE (t : Tg) (e : EM) (w : W) (σ : Sg) (st : List Cell) : Res W := stepP e st (t.put w σ)
@[simp] theorem stepE_nm (i : Nat) (e : EM) (w : W) : stepE (.nm i) e w σ st = e (σ.set i (some w)) st := by unfold stepE; simp
@[simp] theorem stepE_tp (ts : List Tg) (e : EM) (l : List P) : stepE (.tp ts) e (.p (.tup l)) σ st = stepP e st (Tg.puts ts l σ) := by unfold stepE; simp
/-- a comprehension by its invariant: what there is so far -/
theorem lcL_rule {t : Tg} {e : EM} {σ0 : Sg} (F : Res (List W) → Prop) (I : Nat → List W → List Cell → Prop) {l : List W} {st : List Cell} (h : I 0 [] st)
    (s : ∀ (i : Nat) (w : W) acc st, l[i]? = some w → acc.length = i → I i acc st → El (fun x st' => I (i + 1) (acc ++ [x]) st') (stepE t e w σ0 st)) (he : ∀ ws st, ws.length = l.length → I l.length ws st → F (.ok ws st)) : F (lcL t mYes e σ0 l st) := by
  have go : ∀ {l : List W} {k : Nat} {acc : List W} {st : List Cell}, acc.length = k → I k acc st → (∀ (i : Nat) (w : W) acc st, l[i]? = some w → acc.length = k + i → I (k + i) acc st → El (fun x st' => I (k + i + 1) (acc ++ [x]) st') (stepE t e w σ0 st)) → ∃ ws st2, lcL t mYes e σ0 l st = .ok ws st2 ∧ (acc ++ ws).length = k + l.length ∧ I (k + l.length) (acc ++ ws) st2 := by
    intro l
    induction l with
    | nil => intro k acc st ha h _; exact ⟨[], st, rfl, by simpa using ha, by simpa using h⟩
    | cons w l ih =>
      intro k acc st ha h s
      have s0 := s 0 w acc st rfl ha h
      rw [lcL_cons]
      unfold stepE at s0
      cases ep : t.put w σ0 with
      | none => rw [ep] at s0; exact s0.elim
      | some σ1 =>
        rw [ep, stepP_e] at s0
        cases hr : e σ1 st with
        | ok x st2 =>
          rw [hr] at s0
          obtain ⟨ws, st3, e1, e2, e3⟩ := ih (k := k + 0 + 1) (acc := acc ++ [x]) (st := st2) (by simp [ha]) s0 fun i w' acc' st' g ga g2 => by
            have := s (i + 1) w' acc' st' (by simpa using g) (by omega) (by rw [show k + (i + 1) = k + 0 + 1 + i by omega]; exact g2)
            rw [show k + (i + 1) + 1 = k + 0 + 1 + i + 1 by omega] at this
            exact this
          refine ⟨x :: ws, st3, ?_, ?_, ?_⟩
          · rw [lcP_e, mYes_e]
            simp only [Res.nox_ok, Res.bind_ok, lcC_e, if_true, hr, lcC2_e, e1, consK2_e]
          · simp only [List.length_append, List.length_cons, List.length_nil] at e2 ⊢; omega
          · rw [List.append_assoc] at e3
            rw [List.length_cons, show k + (l.length + 1) = k + 0 + 1 + l.length by omega]
            exact e3
        | exc _ _ => rw [hr] at s0; exact s0.elim
        | no => rw [hr] at s0; exact s0.elim
  obtain ⟨ws, st2, e1, e2, e3⟩ := go (k := 0) (acc := []) rfl h fun i w acc st g ga g2 => by
    rw [Nat.zero_add] at ga g2 ⊢
    exact s i w acc st g ga g2
  rw [e1]
  rw [Nat.zero_add, List.nil_append] at e2 e3
  exact he ws st2 e2 e3
/-- each item gives data, the cells stay -/
theorem lcL_map {t : Tg} {e : EM} {σ0 : Sg} {st : List Cell} (g : W → W) : ∀ {l : List W}, (∀ w ∈ l, ∃ σ1, t.put w σ0 = some σ1 ∧ e σ1 st = .ok (g w) st) → lcL t mYes e σ0 l st = .ok (l.map g) st
  | [], _ => rfl
  | w :: l, h => by
    obtain ⟨σ1, e1, e2⟩ := h w List.mem_cons_self
    rw [lcL_cons, e1, lcP_e, mYes_e]
    simp only [Res.nox_ok, Res.bind_ok, lcC_e, if_true, e2, lcC2_e]
    rw [lcL_map g fun w m => h w (List.mem_cons_of_mem _ m)]
    rfl
theorem lcL_mapF {α : Type} {l : List α} {f : α → W} {t : Tg} {e : EM} {σ0 : Sg} {st : List Cell} (g : α → P) (H : ∀ x ∈ l, ∃ σ1, t.put (f x) σ0 = some σ1 ∧ e σ1 st = .ok (.p (g x)) st) : lcL t mYes e σ0 (l.map f) st = .ok (l.map fun x => .p (g x)) st := by
  induction l with
  | nil => rfl
  | cons x l ih =>
    obtain ⟨σ1, e1, e2⟩ := H x List.mem_cons_self
    rw [List.map_cons, lcL_cons, e1, lcP_e, mYes_e]
    simp only [Res.nox_ok, Res.bind_ok, lcC_e, if_true, e2, lcC2_e]
    rw [ih fun y m => H y (List.mem_cons_of_mem _ m)]
    rfl
theorem lcL_filter {t : Tg} {c : TM} {e : EM} {σ0 : Sg} {st : List Cell} (p : W → Bool) (g : W → W) : ∀ {l : List W}, (∀ w ∈ l, ∃ σ1, t.put w σ0 = some σ1 ∧ c σ1 st = .ok (p w) st ∧ (p w = true → e σ1 st = .ok (g w) st)) → lcL t c e σ0 l st = .ok ((l.filter p).map g) st
  | [], _ => rfl
  | w :: l, h => by
    obtain ⟨σ1, e1, e2, e3⟩ := h w List.mem_cons_self
    have ih := lcL_filter p g fun w m => h w (List.mem_cons_of_mem _ m)
    rw [lcL_cons, e1, lcP_e, e2]
    simp only [Res.nox_ok, Res.bind_ok, lcC_e]
    by_cases hp : p w = true
    · rw [if_pos hp, e3 hp]
      simp only [Res.nox_ok, Res.bind_ok, lcC2_e, ih, consK2_e, List.filter_cons, hp, if_true, List.map_cons]
    · rw [if_neg hp, ih, List.filter_cons, if_neg hp]

/-! two clauses -/
def lc2K (t : Tg) (vs : List Nat) (c : TM) (m1 : IM) (t1 : Tg) (vs1 : List Nat) (c1 : TM) (e : EM) (fin : List W → List Cell → Res W) (σ : Sg) (src : Src) (st1 : List Cell) : Res W :=
  if src.n < 1000 then (lc2F src t c m1 t1 vs1 c1 e (wipeS σ vs) (src.n + 1) 0 st1).bind fin else .no
@[simp] theorem mLc2_e (m : IM) (t : Tg) (vs : List Nat) (c : TM) (m1 : IM) (t1 : Tg) (vs1 : List Nat) (c1 : TM) (e : EM) (fin : List W → List Cell → Res W) : mLc2 m t vs c m1 t1 vs1 c1 e fin σ st = (m σ st).bind (lc2K t vs c m1 t1 vs1 c1 e fin σ) := rfl
theorem lc2F_flat {α : Type} {l : List α} {f : α → W} {t t1 : Tg} {vs1 : List Nat} {m1 : IM} {e : EM} {σ0 : Sg} {st : List Cell} {g : α → List P} {h : α → P → P} {c c1 : TM} (hc : ∀ σ, c σ st = .ok true st) (hc1 : ∀ σ, c1 σ st = .ok true st)
    (H : ∀ w ∈ l, (g w).length < 1000 ∧ ∃ σ1, t.put (f w) σ0 = some σ1 ∧ m1 σ1 st = .ok (srcL ((g w).map W.p)) st ∧ ∀ u ∈ g w, ∃ σ2, t1.put (.p u) (wipeS σ1 vs1) = some σ2 ∧ e σ2 st = .ok (.p (h w u)) st) :
    ∀ (n i : Nat), i ≤ l.length → l.length - i < n → lc2F (srcL (l.map f)) t c m1 t1 vs1 c1 e σ0 n i st = .ok (((l.drop i).flatMap fun w => (g w).map (h w)).map W.p) st := by
  intro n
  induction n with
  | zero => intro i hi h; omega
  | succ n ih =>
    intro i hi hn
    rw [lc2F]
    show (match some (l.map f)[i]? with | none => Res.no | some none => .ok [] st | some (some w) => _) = _
    rw [List.getElem?_map]
    by_cases hl : i < l.length
    · rw [List.getElem?_eq_getElem hl, List.drop_eq_getElem_cons hl]
      obtain ⟨hg, σ1, e1, e2, e3⟩ := H l[i] (List.getElem_mem hl)
      have e4 : lcL t1 c1 e (wipeS σ1 vs1) ((g l[i]).map W.p) st = .ok ((g l[i]).map fun x => .p (h l[i] x)) st := by
        generalize g l[i] = gl at e3
        induction gl with
        | nil => rfl
        | cons x gl ih2 =>
          obtain ⟨σ2, q1, q2⟩ := e3 x List.mem_cons_self
          rw [List.map_cons, lcL_cons, q1, lcP_e, hc1]
          simp only [Res.nox_ok, Res.bind_ok, lcC_e, if_true, q2, lcC2_e]
          rw [ih2 fun y m => e3 y (List.mem_cons_of_mem _ m)]
          rfl
      simp only [Option.map_some, e1, hc σ1, Res.nox_ok, Res.bind_ok, if_true, e2, srcL_n, List.length_map, hg]
      have e5 := lcF_srcL ((g l[i]).map W.p) t1 c1 e (wipeS σ1 vs1) st
      rw [List.length_map] at e5
      rw [e5, e4, Res.bind_ok, ih (i + 1) (by omega) (by omega), List.flatMap_cons, List.map_append, List.map_map]
      rfl
    · rw [List.getElem?_eq_none (by omega), List.drop_of_length_le (by omega)]
      simp
/-- two clauses, each item data -/
theorem lc2K_F {α : Type} {l : List α} {f : α → W} {t t1 : Tg} {vs vs1 : List Nat} {m1 : IM} {e : EM} {σ : Sg} {st : List Cell} (g : α → List P) (h : α → P → P) (hl : l.length < 1000)
    (H : ∀ w ∈ l, (g w).length < 1000 ∧ ∃ σ1, t.put (f w) (wipeS σ vs) = some σ1 ∧ m1 σ1 st = .ok (srcL ((g w).map W.p)) st ∧ ∀ u ∈ g w, ∃ σ2, t1.put (.p u) (wipeS σ1 vs1) = some σ2 ∧ e σ2 st = .ok (.p (h w u)) st) :
    lc2K t vs mYes m1 t1 vs1 mYes e finP σ (srcL (l.map f)) st = .ok (.p (.lst (l.flatMap fun w => (g w).map (h w)))) st := by
  unfold lc2K
  rw [srcL_n, List.length_map, if_pos hl, lc2F_flat (c := mYes) (c1 := mYes) (fun _ => rfl) (fun _ => rfl) H (l.length + 1) 0 (by omega) (by omega)]
  simp
theorem lcK_map {l : List W} {t : Tg} {vs : List Nat} {e : EM} {σ : Sg} {st : List Cell} {fin : List W → List Cell → Res W} (g : W → W) (hl : l.length ≤ 1000000) (H : ∀ w ∈ l, ∃ σ1, t.put w (wipeS σ vs) = some σ1 ∧ e σ1 st = .ok (g w) st) :
    lcK t vs mYes e fin σ (srcL l) st = fin (l.map g) st := by
  rw [lcK_L, if_pos hl, lcL_map g H]; rfl
/-- over data, giving data -/
theorem lcK_mapP {l : List P} {t : Tg} {vs : List Nat} {e : EM} {σ : Sg} {st : List Cell} (g : P → P) (hl : l.length ≤ 1000000) (H : ∀ x ∈ l, ∃ σ1, t.put (.p x) (wipeS σ vs) = some σ1 ∧ e σ1 st = .ok (.p (g x)) st) :
    lcK t vs mYes e finP σ (srcL (l.map .p)) st = .ok (.p (.lst (l.map g))) st := by
  rw [lcK_map (fun w => match w with | .p x => .p (g x) | w => w) (by simpa using hl) fun w m => by
    obtain ⟨x, mx, rfl⟩ := List.mem_map.mp m
    exact H x mx]
  rw [List.map_map, finP_e]
  have : (List.map ((fun w => match w with | .p x => W.p (g x) | w => w) ∘ W.p) l) = (l.map g).map W.p := by
    rw [List.map_map]; rfl
  rw [this, pures_mapS]; rfl

/-! ### what is walked -/
def srcR (o : Option Src) (st : List Cell) : Res Src := match o with
  | some s => .ok s st
  | none => .no
@[simp] theorem srcR_e (s : Src) : srcR (some s) st = .ok s st := rfl
def srcK (w : W) (st1 : List Cell) : Res Src := srcR (vSrc st1 w) st1
@[simp] theorem srcK_e (w : W) : srcK w st = srcR (vSrc st w) st := rfl
@[simp] theorem mSrc_e (m : EM) : mSrc m σ st = (m σ st).bind srcK := rfl
@[simp] theorem vSrc_lst (l : List P) : vSrc st (.p (.lst l)) = some (srcL (l.map .p)) := rfl
@[simp] theorem vSrc_tup (l : List P) : vSrc st (.p (.tup l)) = some (srcL (l.map .p)) := rfl
@[simp] theorem vSrc_str (z : Str) : vSrc st (.p (.str z)) = some (srcL (chars z)) := rfl
def rngR (w : W) (st1 : List Cell) : Res Src := match w with
  | .p (.int j) => if j ≤ 1000000 ∧ -1000000 ≤ j then .ok (srcL (rngL 0 j.toNat)) st1 else .no
  | _ => .no
@[simp] theorem rngR_e (j : Int) : rngR (.p (.int j)) st = if j ≤ 1000000 ∧ -1000000 ≤ j then .ok (srcL (rngL 0 j.toNat)) st else .no := rfl
@[simp] theorem mRng1_e (a : EM) : mRng1 a σ st = (a σ st).bind rngR := rfl
def rng2R (w u : W) (st2 : List Cell) : Res Src := match w, u with
  | .p (.int i), .p (.int j) => if (j ≤ 1000000 ∧ -1000000 ≤ j) ∧ i ≤ 1000000 ∧ -1000000 ≤ i then .ok (srcL (rngL i (j - i).toNat)) st2 else .no
  | _, _ => .no
@[simp] theorem rng2R_e (i j : Int) : rng2R (.p (.int i)) (.p (.int j)) st = if (j ≤ 1000000 ∧ -1000000 ≤ j) ∧ i ≤ 1000000 ∧ -1000000 ≤ i then .ok (srcL (rngL i (j - i).toNat)) st else .no := rfl
def rng2K (b : EM) (σ : Sg) (w : W) (st1 : List Cell) : Res Src := (b σ st1).bind (rng2R w)
@[simp] theorem rng2K_e (b : EM) (w : W) : rng2K b σ w st = (b σ st).bind (rng2R w) := rfl
@[simp] theorem mRng2_e (a b : EM) : mRng2 a b σ st = (a σ st).bind (rng2K b σ) := rfl
@[simp] theorem rngL_len (lo : Int) (n : Nat) : (rngL lo n).length = n := by unfold rngL; simp
theorem rngL_get {lo : Int} {n i : Nat} {w : W} (h : (rngL lo n)[i]? = some w) : i < n ∧ w = .p (.int (lo + i)) := by
  unfold rngL at h
  rw [List.getElem?_map] at h
  by_cases hi : i < n
  · rw [List.getElem?_range hi] at h
    exact ⟨hi, (Option.some.inj h).symm⟩
  · rw [List.getElem?_eq_none (by simpa using hi)] at h; cases h
def zipR (x y : Option (List P)) (st : List Cell) : Res Src := match x, y with
  | some l, some m => .ok (srcZ (zipL l m)) st
  | _, _ => .no
@[simp] theorem zipR_e (l m : List P) : zipR (some l) (some m) st = .ok (srcZ (zipL l m)) st := rfl
def zipK2 (x y : W) (st1 : List Cell) : Res Src := zipR (zItems x) (zItems y) st1
@[simp] theorem zipK2_e (x y : W) : zipK2 x y st = zipR (zItems x) (zItems y) st := rfl
def zipK (b : EM) (σ : Sg) (x : W) (st1 : List Cell) : Res Src := (b σ st1).bind (zipK2 x)
@[simp] theorem zipK_e (b : EM) (x : W) : zipK b σ x st = (b σ st).bind (zipK2 x) := rfl
@[simp] theorem mZipA_e (a b : EM) : mZipA a b σ st = (a σ st).bind (zipK b σ) := rfl
@[simp] theorem zItems_lst (l : List P) : zItems (.p (.lst l)) = some l := rfl
@[simp] theorem zItems_tup (l : List P) : zItems (.p (.tup l)) = some l := rfl
@[simp] theorem zItems_str (z : Str) : zItems (.p (.str z)) = some (z.cps.toList.map fun c => .str ⟨#[c]⟩) := rfl
@[simp high] theorem zItems_abc : zItems (.p (.str (Str.ofString "abc"))) = some [.str (Str.ofString "a"), .str (Str.ofString "b"), .str (Str.ofString "c")] := rfl
@[simp] theorem zipL_cons (x y : P) (l m : List P) : zipL (x :: l) (y :: m) = .p (.tup [x, y]) :: zipL l m := rfl
@[simp] theorem zipL_nil (m : List P) : zipL [] m = [] := by unfold zipL; rfl
@[simp] theorem zipL_nil2 (m : List P) : zipL m [] = [] := by cases m <;> rfl
@[simp] theorem chars_abc : chars (Str.ofString "abc") = [.p (.str (Str.ofString "a")), .p (.str (Str.ofString "b")), .p (.str (Str.ofString "c"))] := by
  unfold chars; rfl

/-! ### calls -/
theorem argRefs_p (x : P) (l : List W) : argRefs (.p x :: l) = argRefs l := rfl
/-- a def over data gives data -/
def Gv (r : Res W) (x : P) : Prop := match r with
  | .ok w _ => w = .p x
  | _ => False
@[simp] theorem Gv_ok (w : W) (x : P) : Gv (.ok w st) x = (w = .p x) := rfl
@[simp] theorem Gv_no (x : P) : Gv .no x = False := rfl
@[simp] theorem Gv_ite {c : Prop} [Decidable c] (a b : Res W) (x : P) : Gv (if c then a else b) x = if c then Gv a x else Gv b x := by split <;> rfl
theorem Gv.ex {r : Res W} {x : P} (h : Gv r x) : ∃ st', r = .ok (.p x) st' := by
  unfold Gv at h
  split at h
  · subst h; exact ⟨_, rfl⟩
  · exact h.elim
def Pu (F : FM) (xs : List P) (r : P) : Prop := Gv (F (xs.map W.p) []) r
theorem argRefs_pure : ∀ (xs : List P), argRefs (xs.map W.p) = []
  | [] => rfl
  | x :: xs => by show argRefs (xs.map W.p) = []; exact argRefs_pure xs
theorem argIn_pure : ∀ (xs : List P) (k : Nat), argIn k (xs.map W.p) = xs.map W.p
  | [], _ => rfl
  | x :: xs, k => by show W.p x :: argIn k (xs.map W.p) = _; rw [argIn_pure xs k]; rfl
theorem Pu.call {F : FM} {xs : List P} {r : P} (h : Pu F xs r) (st : List Cell) : callF F (xs.map W.p) st = .ok (.p r) st := by
  obtain ⟨st', h⟩ := Gv.ex h
  unfold callF
  rw [argRefs_pure, argIn_pure, if_pos List.nodup_nil]
  show callEnd 0 [] st (F (xs.map W.p) []) = _
  rw [h]
  simp [Y.callEnd, Y.putCells]
theorem Pu.of1 {F : FM} {x r : P} (h : Gv (F [.p x] []) r) : Pu F [x] r := h
theorem Pu.of2 {F : FM} {x y r : P} (h : Gv (F [.p x, .p y] []) r) : Pu F [x, y] r := h
theorem Pu.of3 {F : FM} {x y z r : P} (h : Gv (F [.p x, .p y, .p z] []) r) : Pu F [x, y, z] r := h
theorem Pu.call1 {F : FM} {x r : P} (h : Pu F [x] r) (st : List Cell) : callF F [.p x] st = .ok (.p r) st := h.call st
theorem Pu.call2 {F : FM} {x y r : P} (h : Pu F [x, y] r) (st : List Cell) : callF F [.p x, .p y] st = .ok (.p r) st := h.call st
theorem Pu.call3 {F : FM} {x y z r : P} (h : Pu F [x, y, z] r) (st : List Cell) : callF F [.p x, .p y, .p z] st = .ok (.p r) st := h.call st
theorem Pu.call4 {F : FM} {x y z u r : P} (h : Pu F [x, y, z, u] r) (st : List Cell) : callF F [.p x, .p y, .p z, .p u] st = .ok (.p r) st := h.call st
/-- an instance made from data -/
def Gm (c : Nat) (m : List P) (r : Res W) : Prop := match r with
  | .ok (.p .non) (.ins c' l :: _) => c' = c ∧ l = m.map W.p
  | _ => False
@[simp] theorem Gm_ok (c c' : Nat) (m : List P) (l : List W) (r : List Cell) : Gm c m (.ok (.p .non) (.ins c' l :: r)) = (c' = c ∧ l = m.map W.p) := rfl
@[simp] theorem Gm_no (c : Nat) (m : List P) : Gm c m .no = False := rfl
@[simp] theorem Gm_ite (n : Nat) (m : List P) {c : Prop} [Decidable c] (a b : Res W) : Gm n m (if c then a else b) = if c then Gm n m a else Gm n m b := by split <;> rfl
theorem makeF_pure {c n : Nat} {F : FM} {xs m : List P} (h : Gm c m (F (.r 0 :: xs.map W.p) [.ins c []])) (hn : m.length = n) (st : List Cell) : makeF c n F (xs.map W.p) st = .ok (.p (.obj c m)) st := by
  unfold makeF
  rw [argRefs_pure, argIn_pure, if_pos List.nodup_nil]
  simp only [Y.getCells]
  unfold Gm at h
  split at h
  · rename_i c' l r e
    obtain ⟨rfl, rfl⟩ := h
    simp [e, hn, Y.putCells]
  · exact h.elim
theorem makeF1 {c n : Nat} {F : FM} {x : P} {m : List P} (h : Gm c m (F [.r 0, .p x] [.ins c []])) (hn : m.length = n) (st : List Cell) : makeF c n F [.p x] st = .ok (.p (.obj c m)) st := makeF_pure (xs := [x]) h hn st
theorem makeF2 {c n : Nat} {F : FM} {x y : P} {m : List P} (h : Gm c m (F [.r 0, .p x, .p y] [.ins c []])) (hn : m.length = n) (st : List Cell) : makeF c n F [.p x, .p y] st = .ok (.p (.obj c m)) st := makeF_pure (xs := [x, y]) h hn st
theorem makeF3 {c n : Nat} {F : FM} {x y z : P} {m : List P} (h : Gm c m (F [.r 0, .p x, .p y, .p z] [.ins c []])) (hn : m.length = n) (st : List Cell) : makeF c n F [.p x, .p y, .p z] st = .ok (.p (.obj c m)) st := makeF_pure (xs := [x, y, z]) h hn st
end
end YZ

/-! Z3: simp lemmas for exceptions, instances, getters, tries. -/
namespace YZ
open Y PySem PySem.Spec PyProof.Rows L2
variable {σ : Sg} {st : List Cell} {α β : Type}
@[simp] theorem Res.nox_exc (x : Exn) : (Res.exc x st : Res α).nox = .no := rfl
@[simp] theorem Res.to_exc (x : Exn) (k : α → List Cell → SR) : (Res.exc x st : Res α).to σ k = .exc x σ st := rfl
@[simp] theorem SR.then_exc (x : Exn) (k : Sg → List Cell → SR) : (SR.exc x σ st).then k = .exc x σ st := rfl
@[simp] theorem SR.nox_exc (x : Exn) : (SR.exc x σ st).nox = .no := rfl
@[simp] theorem forK_exc (t : Tg) (b : SMm) (l : List W) (x : Exn) : forK t b l (.exc x σ st) = .exc x σ st := rfl
/-! runs that may raise -/
def runRX : SR → Res W
  | .ok .nx _ st => .ok (.p .non) st
  | .ok (.rt w) _ st => .ok w st
  | .exc x _ st => .exc x st
  | _ => .no
@[simp] theorem runRX_nx : runRX (.ok .nx σ st) = .ok (.p .non) st := rfl
@[simp] theorem runRX_rt (w : W) : runRX (.ok (.rt w) σ st) = .ok w st := rfl
@[simp] theorem runRX_exc (x : Exn) : runRX (.exc x σ st) = .exc x st := rfl
@[simp] theorem runRX_no : runRX .no = .no := rfl
@[simp] theorem runRX_ite {c : Prop} [Decidable c] (a b : SR) : runRX (if c then a else b) = if c then runRX a else runRX b := by split <;> rfl
theorem runX_e (np N : Nat) (m : SMm) (ws : List W) : runX np N m ws st = if ws.length = np then runRX (m (ws.map some ++ List.replicate (N - np) none) st) else .no := by
  unfold runX runRX
  split <;> rfl
@[simp] theorem noxF_e (F : FM) (ws : List W) : noxF F ws st = (F ws st).nox := rfl
theorem callF_noxF (F : FM) (ws : List W) : callF (noxF F) ws st = (callF F ws st).nox := by
  unfold callF
  split
  · split
    · rename_i cs _
      show Y.callEnd _ _ _ (F (argIn 0 ws) cs).nox = _
      cases F (argIn 0 ws) cs with
      | ok a s => unfold Y.callEnd; simp only [Res.nox_ok]; repeat (first | rfl | split)
      | exc x s => unfold Y.callEnd; simp only [Res.nox_exc]; repeat (first | rfl | split)
      | no => rfl
    · rfl
  · rfl
@[simp] theorem sRaise0_e (c : Nat) (T : Str) : sRaise0 c T σ st = .exc ⟨c, [.str T]⟩ σ st := rfl
def raiseK (c : Nat) (T : Str) (σ : Sg) (w : W) (st1 : List Cell) : SR := match w with
  | .p x => .exc ⟨c, [x, .str T]⟩ σ st1
  | _ => .no
@[simp] theorem raiseK_e (c : Nat) (T : Str) (x : P) : raiseK c T σ (.p x) st = .exc ⟨c, [x, .str T]⟩ σ st := rfl
@[simp] theorem sRaise1_e (c : Nat) (m : EM) (T : Str) : sRaise1 c m T σ st = (m σ st).to σ (raiseK c T σ) := by
  unfold sRaise1 raiseK; rfl
@[simp] theorem mCallX_e (F : FM) (a : AM) : mCallX F a σ st = (a σ st).bind (callF F) := rfl
def clsRX (F : FM) (w : W) (ok : Bool) (r : Res (List W)) : Res W := if ok = true then r.bind fun ws st2 => callF F (w :: ws) st2 else .no
def callOX (F : FM) (w : W) (ws : List W) (st1 : List Cell) : Res W := callF F (w :: ws) st1
@[simp] theorem callOX_e (F : FM) (w : W) (ws : List W) : callOX F w ws st = callF F (w :: ws) st := rfl
@[simp] theorem clsRX_e (F : FM) (w : W) (r : Res (List W)) : clsRX F w true r = r.bind (callOX F w) := rfl
def methKX (c : Nat) (F : FM) (a : AM) (σ : Sg) (w : W) (st1 : List Cell) : Res W := clsRX F w (decide (clsOf st1 w = some c)) (a σ st1)
@[simp] theorem methKX_e (c : Nat) (F : FM) (a : AM) (w : W) : methKX c F a σ w st = clsRX F w (decide (clsOf st w = some c)) (a σ st) := rfl
@[simp] theorem mMethX_e (c : Nat) (F : FM) (o : EM) (a : AM) : mMethX c F o a σ st = (o σ st).bind (methKX c F a σ) := by
  unfold mMethX methKX clsRX
  congr 1
  funext w st1
  by_cases h : clsOf st1 w = some c <;> simp [h]
@[simp] theorem mMakeX_e (c n : Nat) (F : FM) (a : AM) : mMakeX c n F a σ st = (a σ st).bind (makeX c n F) := rfl
def propR (F : FM) (w : W) (st1 : List Cell) (ok : Bool) : Res W := if ok = true then (callF F [w] st1).nox else .no
@[simp] theorem propR_e (F : FM) (w : W) : propR F w st true = (callF F [w] st).nox := rfl
def propK2 (c : Nat) (F : FM) (w : W) (st1 : List Cell) : Res W := propR F w st1 (decide (clsOf st1 w = some c))
@[simp] theorem propK2_e (c : Nat) (F : FM) (w : W) : propK2 c F w st = propR F w st (decide (clsOf st w = some c)) := rfl
@[simp] theorem mProp_e (c : Nat) (F : FM) (o : EM) : mProp c F o σ st = (o σ st).bind (propK2 c F) := by
  unfold mProp propK2 propR
  congr 1
  funext w st1
  by_cases h : clsOf st1 w = some c <;> simp [h]
/-! tries -/
def tryO (o : Option P) (st : List Cell) : Res W := match o with
  | some p => .ok (.p p) st
  | none => .no
@[simp] theorem tryO_e (p : P) : tryO (some p) st = .ok (.p p) st := rfl
def tryK (tb : List (Nat × Str × Option Str)) : Res W → Res W
  | .ok (.p x) st1 => .ok (.p (.tup [.str "value", x])) st1
  | .ok (.r _) _ => .no
  | .exc x st1 => tryO (tryE tb x) st1
  | .no => .no
@[simp] theorem tryK_ok (tb : List (Nat × Str × Option Str)) (x : P) : tryK tb (.ok (.p x) st) = .ok (.p (.tup [.str "value", x])) st := rfl
@[simp] theorem tryK_exc (tb : List (Nat × Str × Option Str)) (x : Exn) : tryK tb (.exc x st) = tryO (tryE tb x) st := rfl
@[simp] theorem tryK_no (tb : List (Nat × Str × Option Str)) : tryK tb .no = .no := rfl
@[simp] theorem tryK_ite (tb : List (Nat × Str × Option Str)) {c : Prop} [Decidable c] (a b : Res W) : tryK tb (if c then a else b) = if c then tryK tb a else tryK tb b := by split <;> rfl
@[simp] theorem mTryL_e (tb : List (Nat × Str × Option Str)) (m : EM) : mTryL tb m σ st = tryK tb (m σ st) := by
  unfold mTryL tryK
  split <;> first | rfl | (rename_i e; rw [e]) | skip
  all_goals first | rfl | (simp_all [tryO]; done) | (simp_all [tryO]; split <;> simp_all)
def tryEr (o : Option (Str × Option Str)) (l : List P) : Option P := match o with
  | some (T, none) => (match l with | [.str T'] => if T = T' then some (.tup [.str T, .non]) else none | _ => none)
  | some (T, some _) => (match l with | [y, .str T'] => if T = T' then some (.tup [.str T, y]) else none | _ => none)
  | none => none
@[simp] theorem tryE_e (tb : List (Nat × Str × Option Str)) (c : Nat) (l : List P) : tryE tb ⟨c, l⟩ = tryEr (tb.lookup c) l := by
  unfold tryE tryEr
  rfl
@[simp] theorem tryEr_0 (T : Str) : tryEr (some (T, none)) [.str T] = some (.tup [.str T, .non]) := by simp [tryEr]
@[simp] theorem tryEr_1 (T f : Str) (y : P) : tryEr (some (T, some f)) [y, .str T] = some (.tup [.str T, y]) := by simp [tryEr]
def tryCO (o : Option Bool) (x : P) (e : Exn) (σ : Sg) (st : List Cell) : SR := match o with
  | some true => .ok (.rt (.p x)) σ st
  | some false => .exc e σ st
  | none => .no
@[simp] theorem tryCO_t (x : P) (e : Exn) : tryCO (some true) x e σ st = .ok (.rt (.p x)) σ st := rfl
@[simp] theorem tryCO_f (x : P) (e : Exn) : tryCO (some false) x e σ st = .exc e σ st := rfl
def tryCR (T : List (Nat × Bool)) (x : P) : SR → SR
  | .exc e σ1 st1 => tryCO (T.lookup e.c) x e σ1 st1
  | r => r
@[simp] theorem sTryC_e (T : List (Nat × Bool)) (b : SMm) (x : P) : sTryC T b x σ st = tryCR T x (b σ st) := by
  unfold sTryC
  cases b σ st with
  | ok f σ1 st1 => rfl
  | exc e σ1 st1 => rfl
  | no => rfl
@[simp] theorem tryCR_ok (T : List (Nat × Bool)) (x : P) (f : Fl) : tryCR T x (.ok f σ st) = .ok f σ st := rfl
@[simp] theorem tryCR_no (T : List (Nat × Bool)) (x : P) : tryCR T x .no = .no := rfl
@[simp] theorem tryCR_exc (T : List (Nat × Bool)) (x : P) (e : Exn) : tryCR T x (.exc e σ st) = tryCO (T.lookup e.c) x e σ st := rfl
@[simp] theorem tryCR_ite (T : List (Nat × Bool)) (x : P) {c : Prop} [Decidable c] (a b : SR) : tryCR T x (if c then a else b) = if c then tryCR T x a else tryCR T x b := by split <;> rfl
/-! instances -/
@[simp] theorem asB_e (n k : Bool) : asB n (.ok (.p (.bl k)) st) = .ok (.p (.bl (k != n))) st := rfl
@[simp] theorem isStrR_e (z : Str) : isStrR (.ok (.p (.str z)) st) = .ok (.p (.str z)) st := rfl
@[simp] theorem isLenR_e (i : Int) : isLenR (.ok (.p (.int i)) st) = if 0 ≤ i ∧ i ≤ 1000000 then .ok (.p (.int i)) st else .no := rfl
@[simp] theorem isObjR_e (c : Nat) (l : List P) : isObjR (.ok (.p (.obj c l)) st) = .ok (.p (.obj c l)) st := rfl
@[simp] theorem isObjR_exc (x : Exn) : isObjR (.exc x st) = .exc x st := rfl
@[simp] theorem tyOk_non (c : Nat) : tyOk c st (.p .non) = true := rfl
@[simp] theorem tyOk_bl (c : Nat) (b : Bool) : tyOk c st (.p (.bl b)) = true := rfl
@[simp] theorem tyOk_int (c : Nat) (b : Int) : tyOk c st (.p (.int b)) = true := rfl
@[simp] theorem tyOk_str (c : Nat) (b : Str) : tyOk c st (.p (.str b)) = true := rfl
@[simp] theorem tyOk_tup (c : Nat) (b : List P) : tyOk c st (.p (.tup b)) = true := rfl
@[simp] theorem tyOk_lst (c : Nat) (b : List P) : tyOk c st (.p (.lst b)) = true := rfl
@[simp] theorem tyOk_obj (c : Nat) (b : List P) : tyOk c st (.p (.obj c b)) = true := by simp [tyOk]
def eqOR (neg : Bool) (F : FM) (x y : W) (st : List Cell) (ok : Bool) : Res W := if ok = true then asB neg (callF F [x, y] st) else .no
@[simp] theorem eqOR_e (neg : Bool) (F : FM) (x y : W) : eqOR neg F x y st true = asB neg (callF F [x, y] st) := rfl
@[simp] theorem vEqO_e (c : Nat) (F : FM) (neg : Bool) (x y : W) : vEqO c F neg x y st = eqOR neg F x y st (decide (clsOf st x = some c) && tyOk c st y) := by
  unfold vEqO eqOR
  by_cases h : clsOf st x = some c <;> simp [h]
def own1R (f : Res W → Res W) (F : FM) (w : W) (st : List Cell) (ok : Bool) : Res W := if ok = true then f (callF F [w] st) else .no
@[simp] theorem own1R_e (f : Res W → Res W) (F : FM) (w : W) : own1R f F w st true = f (callF F [w] st) := rfl
@[simp] theorem vReprO_e (c : Nat) (F : FM) (w : W) : vReprO c F [w] st = own1R isStrR F w st (decide (clsOf st w = some c)) := by
  unfold vReprO own1R
  by_cases h : clsOf st w = some c <;> simp [h]
@[simp] theorem vLenO_e (c : Nat) (F : FM) (w : W) : vLenO c F [w] st = own1R isLenR F w st (decide (clsOf st w = some c)) := by
  unfold vLenO own1R
  by_cases h : clsOf st w = some c <;> simp [h]
def isOR (c : Nat) (tb : List (Nat × Bool)) (o : Option Nat) (t : Option String) (st : List Cell) : Res W := match o with
  | some d => if d = c then .ok (.p (.bl true)) st else (match tb.lookup d with | some b => .ok (.p (.bl b)) st | none => .no)
  | none => (match t with | some _ => .ok (.p (.bl false)) st | none => .no)
def isOK (c : Nat) (tb : List (Nat × Bool)) (w : W) (st : List Cell) : Res W := isOR c tb (clsOf st w) (tyName st w) st
@[simp] theorem isOK_e (c : Nat) (tb : List (Nat × Bool)) (w : W) : isOK c tb w st = isOR c tb (clsOf st w) (tyName st w) st := rfl
@[simp] theorem mIsO_e (c : Nat) (tb : List (Nat × Bool)) (a : EM) : mIsO c tb a σ st = (a σ st).bind (isOK c tb) := by
  unfold mIsO isOK isOR; rfl
@[simp] theorem isOR_same (c : Nat) (tb : List (Nat × Bool)) (t : Option String) : isOR c tb (some c) t st = .ok (.p (.bl true)) st := by simp [isOR]
@[simp] theorem isOR_none (c : Nat) (tb : List (Nat × Bool)) (t : String) : isOR c tb none (some t) st = .ok (.p (.bl false)) st := rfl
@[simp] theorem clsOf_non : clsOf st (.p .non) = none := rfl
@[simp] theorem clsOf_bl (b : Bool) : clsOf st (.p (.bl b)) = none := rfl
@[simp] theorem clsOf_int (b : Int) : clsOf st (.p (.int b)) = none := rfl
@[simp] theorem clsOf_str (b : Str) : clsOf st (.p (.str b)) = none := rfl
@[simp] theorem clsOf_tup (b : List P) : clsOf st (.p (.tup b)) = none := rfl
@[simp] theorem clsOf_lst (b : List P) : clsOf st (.p (.lst b)) = none := rfl
def callOR (F : FM) (o p : Option (Option W)) (c : Nat) (st : List Cell) : Res W := match o, p with
  | some (some x), some (some y) => if clsOf st x = some c then callF F [x, y] st else .no
  | _, _ => .no
@[simp] theorem mCallO_e (c : Nat) (F : FM) (i j : Nat) : mCallO c F i j σ st = callOR F σ[i]? σ[j]? c st := by
  unfold mCallO callOR; rfl
@[simp] theorem callOR_e (F : FM) (x y : W) (c : Nat) : callOR F (some (some x)) (some (some y)) c st = if clsOf st x = some c then callF F [x, y] st else .no := rfl
def binOK3 (c : Nat) (F : FM) (x y : W) (st2 : List Cell) : Res W := if clsOf st2 x = some c ∧ clsOf st2 y = some c then isObjR (callF F [x, y] st2) else .no
@[simp] theorem binOK3_e (c : Nat) (F : FM) (x y : W) : binOK3 c F x y st = if clsOf st x = some c ∧ clsOf st y = some c then isObjR (callF F [x, y] st) else .no := rfl
@[simp] theorem mBinO_e (c : Nat) (F : FM) (a b : EM) : mBinO c F a b σ st = (a σ st).bind (binK (binOK3 c F) b σ) := rfl
end YZ
namespace YZ
open Y PySem PySem.Spec PyProof.Rows L2
variable {st : List Cell}
/-! what a def with data alone raises -/
def Ge (e : Exn) (r : Res W) : Prop := match r with
  | .exc e' _ => e' = e
  | _ => False
@[simp] theorem Ge_exc (e e' : Exn) : Ge e (.exc e' st) = (e' = e) := rfl
@[simp] theorem Ge_ok (e : Exn) (w : W) : Ge e (.ok w st) = False := rfl
@[simp] theorem Ge_no (e : Exn) : Ge e .no = False := rfl
@[simp] theorem Ge_ite (e : Exn) {c : Prop} [Decidable c] (a b : Res W) : Ge e (if c then a else b) = if c then Ge e a else Ge e b := by split <;> rfl
theorem Ge.ex {e : Exn} {r : Res W} (h : Ge e r) : ∃ st, r = .exc e st := by
  unfold Ge at h
  split at h
  · subst h; exact ⟨_, rfl⟩
  · exact h.elim
theorem Ge.call {F : FM} {xs : List P} {e : Exn} (h : Ge e (F (xs.map W.p) [])) (st : List Cell) : callF F (xs.map W.p) st = .exc e st := by
  obtain ⟨st', h⟩ := Ge.ex h
  unfold callF
  rw [argRefs_pure, argIn_pure, if_pos List.nodup_nil]
  show Y.callEnd 0 [] st (F (xs.map W.p) []) = _
  rw [h]
  simp [Y.callEnd, Y.putCells]
theorem Ge.call1 {F : FM} {x : P} {e : Exn} (h : Ge e (F [.p x] [])) (st : List Cell) : callF F [.p x] st = .exc e st := Ge.call (xs := [x]) h st
theorem Ge.call2 {F : FM} {x y : P} {e : Exn} (h : Ge e (F [.p x, .p y] [])) (st : List Cell) : callF F [.p x, .p y] st = .exc e st := Ge.call (xs := [x, y]) h st
theorem Ge.call3 {F : FM} {x y z : P} {e : Exn} (h : Ge e (F [.p x, .p y, .p z] [])) (st : List Cell) : callF F [.p x, .p y, .p z] st = .exc e st := Ge.call (xs := [x, y, z]) h st
theorem makeX_pure {c n : Nat} {F : FM} {xs m : List P} (h : Gm c m (F (.r 0 :: xs.map W.p) [.ins c []])) (hm : m.length = n) (st : List Cell) : makeX c n F (xs.map W.p) st = .ok (.p (.obj c m)) st := by
  unfold Gm at h
  split at h
  · rename_i c' l r e
    obtain ⟨rfl, rfl⟩ := h
    unfold makeX
    rw [argRefs_pure, argIn_pure]
    simp [Y.getCells, e, hm, Y.putCells]
  · exact h.elim
theorem makeX_exc {c n : Nat} {F : FM} {xs : List P} {e : Exn} (h : ∃ d r, F (.r 0 :: xs.map W.p) [.ins c []] = .exc e (d :: r)) (st : List Cell) : makeX c n F (xs.map W.p) st = .exc e st := by
  obtain ⟨d, r, h⟩ := h
  unfold makeX
  rw [argRefs_pure, argIn_pure]
  simp [Y.getCells, h, Y.putCells]

/-! ### while -/
@[simp] theorem sWhile_e (n : Nat) (c : TM) (b : SMm) (σ : Sg) (st : List Cell) : sWhile n c b σ st = whileF c b n σ st := rfl
/-- a while loop by an invariant that counts down -/
theorem whileF_rule {c : TM} {b : SMm} (F : SR → Prop) (I : Nat → Sg → List Cell → Prop) {n : Nat} (m : Nat) {σ : Sg} {st : List Cell} (hn : m < n) (h : I m σ st)
    (hs : ∀ m σ st, I m σ st → (∃ st1, c σ st = .ok false st1 ∧ F (.ok .nx σ st1)) ∨ ∃ st1 m', c σ st = .ok true st1 ∧ m' < m ∧ Sq (I m') F (b σ st1)) : F (whileF c b n σ st) := by
  induction n generalizing m σ st with
  | zero => omega
  | succ n ih =>
    rw [whileF]
    rcases hs m σ st h with ⟨st1, e, hF⟩ | ⟨st1, m', e, hm, hb⟩
    · rw [e]; exact hF
    · rw [e]
      have go : ∀ {σ2 : Sg} {st2 : List Cell}, I m' σ2 st2 → F (whileF c b n σ2 st2) := fun h2 => ih m' (by omega) h2
      show F (Res.to (.ok true st1) σ _)
      rw [Y.Res.to]
      simp only [if_true]
      cases er : b σ st1 with
      | ok f σ2 st2 =>
        rw [er] at hb
        cases f with
        | nx => exact go hb
        | ct => exact go hb
        | bk => exact hb
        | rt v => exact hb
      | exc _ _ _ => rw [er] at hb; exact hb.elim
      | no => rw [er] at hb; exact hb.elim

/-! ### what equals itself -/
theorem pEqs_self : ∀ {l : List P}, (∀ x ∈ l, pEq x x = true) → pEqs l l = true
  | [], _ => by simp
  | x :: l, h => by rw [pEqs_cons, h x List.mem_cons_self, pEqs_self fun y m => h y (List.mem_cons_of_mem _ m)]; rfl
theorem pEq_self : ∀ (n : Nat) (x : P), okP n x = true → pEq x x = true
  | n, .non, _ => by rw [pEq]
  | n, .int i, _ => by simp
  | n, .str i, _ => by simp
  | n, .bl i, _ => by simp
  | 0, .tup l, h => by rw [okP] at h <;> first | cases h | (intros; contradiction)
  | 0, .lst l, h => by rw [okP] at h <;> first | cases h | (intros; contradiction)
  | n + 1, .tup l, h => by
    rw [okP, List.all_eq_true] at h
    rw [pEq_tup]
    exact pEqs_self fun x m => pEq_self n x (h x m)
  | n + 1, .lst l, h => by
    rw [okP, List.all_eq_true] at h
    rw [pEq_lst]
    exact pEqs_self fun x m => pEq_self n x (h x m)
  | n, .scr _, h => by cases n <;> (rw [okP] at h <;> first | cases h | (intros; contradiction))
  | n, .obj _ _, h => by cases n <;> (rw [okP] at h <;> first | cases h | (intros; contradiction))
  | n, .exn _ _, h => by cases n <;> (rw [okP] at h <;> first | cases h | (intros; contradiction))
  | n, .dk _ _, h => by cases n <;> (rw [okP] at h <;> first | cases h | (intros; contradiction))
theorem vEqB_self {n : Bool} {x : P} (h : okP 64 x = true) : vEqB n (.p x) (.p x) st = .ok (.p (.bl (!n))) st := by
  rw [vEqB_data h h, pEq_self 64 x h]
  cases n <;> rfl
end YZ

namespace YZ
open Y PySem PySem.Spec PyProof.Rows L2
/-! ### the bag -/
def bagC (ns : List Int) (a b s : Int) : Cell := .lst [.p (.lst (ns.map .int)), .p (.int a), .p (.int b), .p (.int s)]
def GB (c : Cell) : Prop := ∃ ns a b s, c = bagC ns a b s ∧ 0 ≤ a ∧ 0 ≤ b ∧ 0 ≤ s ∧ s < 2147483587
theorem GB.plain {c : Cell} (h : GB c) : plainC c = true := by
  obtain ⟨ns, a, b, s, rfl, _⟩ := h
  rfl
def Gb (R : P → Prop) (r : Res W) : Prop := match r with
  | .ok (.p x) (c :: _) => GB c ∧ R x
  | _ => False
@[simp] theorem Gb_ok (R : P → Prop) (x : P) (c : Cell) (l : List Cell) : Gb R (.ok (.p x) (c :: l)) = (GB c ∧ R x) := rfl
@[simp] theorem Gb_ite {R : P → Prop} {c : Prop} [Decidable c] (a b : Res W) : Gb R (if c then a else b) = if c then Gb R a else Gb R b := by split <;> rfl
@[simp] theorem Gb_no (R : P → Prop) : Gb R .no = False := rfl
theorem Gb.ex {R : P → Prop} {r : Res W} (h : Gb R r) : ∃ x c l, r = .ok (.p x) (c :: l) ∧ GB c ∧ R x := by
  unfold Gb at h
  split at h
  · exact ⟨_, _, _, rfl, h.1, h.2⟩
  · exact h.elim
def Bg (F : FM) (xs : List P) (R : P → Prop) : Prop := ∀ c, GB c → Gb R (F (.r 0 :: xs.map W.p) [c])
theorem Bg.call {F : FM} {xs : List P} {R : P → Prop} (h : Bg F xs R) {c : Cell} (g : GB c) (rest : List Cell) : ∃ x c', callF F (.r 0 :: xs.map W.p) (c :: rest) = .ok (.p x) (c' :: rest) ∧ GB c' ∧ R x := by
  obtain ⟨x, c', l, e, g', hr⟩ := Gb.ex (h c g)
  refine ⟨x, c', ?_, g', hr⟩
  have e1 : argRefs (.r 0 :: xs.map W.p) = [0] := by show 0 :: argRefs (xs.map W.p) = _; rw [argRefs_pure]
  have e2 : argIn 0 (.r 0 :: xs.map W.p) = .r 0 :: xs.map W.p := by show W.r 0 :: argIn 1 (xs.map W.p) = _; rw [argIn_pure]
  unfold callF
  rw [e1, if_pos (by simp), e2]
  simp [Y.getCells, g.plain, e, Y.callEnd, Y.putCells, g'.plain]
theorem Bg.call0 {F : FM} {R : P → Prop} (h : Bg F [] R) {c : Cell} (g : GB c) (rest : List Cell) : ∃ x c', callF F [.r 0] (c :: rest) = .ok (.p x) (c' :: rest) ∧ GB c' ∧ R x := h.call g rest
theorem Bg.call1 {F : FM} {y : P} {R : P → Prop} (h : Bg F [y] R) {c : Cell} (g : GB c) (rest : List Cell) : ∃ x c', callF F [.r 0, .p y] (c :: rest) = .ok (.p x) (c' :: rest) ∧ GB c' ∧ R x := h.call g rest
theorem Bg.call2 {F : FM} {y z : P} {R : P → Prop} (h : Bg F [y, z] R) {c : Cell} (g : GB c) (rest : List Cell) : ∃ x c', callF F [.r 0, .p y, .p z] (c :: rest) = .ok (.p x) (c' :: rest) ∧ GB c' ∧ R x := h.call g rest
theorem Bg.call3 {F : FM} {y z u : P} {R : P → Prop} (h : Bg F [y, z, u] R) {c : Cell} (g : GB c) (rest : List Cell) : ∃ x c', callF F [.r 0, .p y, .p z, .p u] (c :: rest) = .ok (.p x) (c' :: rest) ∧ GB c' ∧ R x := h.call g rest
end YZ
namespace YS
open PySem PySem.Spec PyProof.Rows L2 Y YZ
def sm_law_bag : FM := runF 1 3 (sSeq (sSet 1 (mC (.int 3845)))
    (sSeq (sFor (mSrc (mSl (mVar 0) oNone (oSome (mC (.int 63))))) (.nm 2) (sSet 1 (mBin vMod (mCallV vInt (mCons (mBin vAdd (mBin vAdd (mBin vMulI (mVar 1) (mC (.int 48611))) (mBin vMod (mCallV vInt (mCons (mVar 2) mNil)) (mC (.int 2147483423)))) (mC (.int 31))) mNil)) (mC (.int 2147483587)))))
    (sRet (mLstC (mCons (mCallV vLstOf (mCons (mSl (mVar 0) oNone (oSome (mC (.int 63)))) mNil)) (mCons (mC (.int 0)) (mCons (mC (.int 0)) (mCons (mVar 1) mNil))))))))
def sm_law_pull : FM := runF 2 5 (sSeq (sIf (mAndT (mTst (mBin (vEqB false) (mBin vIx (mVar 0) (mC (.int 2))) (mC (.int 0)))) (mTst (mBin vLt (mBin vIx (mVar 0) (mC (.int 1))) (mCallV vLen (mCons (mBin vIx (mVar 0) (mC (.int 0))) mNil))))) (sSeq (sSet 3 (mBin vIx (mBin vIx (mVar 0) (mC (.int 0))) (mBin vIx (mVar 0) (mC (.int 1)))))
    (sSeq (sSetIx (mVar 0) (mC (.int 1)) (mBin vAdd (mBin vIx (mVar 0) (mC (.int 1))) (mC (.int 1))))
    (sIf (mTst (mBin vGe (mVar 3) (mBin vPow (mC (.int 10)) (mC (.int 18))))) (sSetIx (mVar 0) (mC (.int 2)) (mVar 3)) (sSetIx (mVar 0) (mC (.int 3)) (mBin vMod (mCallV vInt (mCons (mBin vAdd (mBin vAdd (mBin vMulI (mBin vIx (mVar 0) (mC (.int 3))) (mC (.int 45989))) (mBin vMulI (mBin vMod (mCallV vInt (mCons (mVar 3) mNil)) (mC (.int 2147483423))) (mC (.int 1409)))) (mC (.int 23))) mNil)) (mC (.int 2147483587))))))) sNx)
    (sSeq (sIf (mTst (mBin vGt (mBin vIx (mVar 0) (mC (.int 2))) (mC (.int 0)))) (sSeq (sSet 4 (mBin vMod (mCallV vInt (mCons (mBin vIx (mVar 0) (mC (.int 2))) mNil)) (mVar 1)))
    (sSeq (sSetIx (mVar 0) (mC (.int 2)) (mBin vFdv (mBin vIx (mVar 0) (mC (.int 2))) (mVar 1)))
    (sRet (mVar 4)))) sNx)
    (sSeq (sSet 2 (mBin vIx (mVar 0) (mC (.int 3))))
    (sSeq (sSetIx (mVar 0) (mC (.int 3)) (mBin vMod (mCallV vInt (mCons (mBin vAdd (mBin vAdd (mBin vMulI (mVar 2) (mVar 2)) (mBin vMulI (mVar 2) (mC (.int 31013)))) (mC (.int 1400033))) mNil)) (mC (.int 2147483587))))
    (sRet (mBin vMod (mCallV vInt (mCons (mBin vAdd (mBin vFdv (mBin vIx (mVar 0) (mC (.int 3))) (mC (.int 71))) (mBin vMulI (mBin vMod (mCallV vInt (mCons (mBin vIx (mVar 0) (mC (.int 3))) mNil)) (mC (.int 8087))) (mC (.int 61)))) mNil)) (mVar 1)))))))
def sm_law_of : FM := runF 2 2 (sRet (mBin vIx (mVar 1) (mCallF sm_law_pull (mCons (mVar 0) (mCons (mCallV vLen (mCons (mVar 1) mNil)) mNil)))))
def sm_law_mixed : FM := runF 2 4 (sSeq (sSet 2 (mLstC mNil))
    (sSeq (sFor (mSrc (mVar 1)) (.nm 3) (sExpr (mBm "list" vInsert (mVar 2) (mCons (mCallF sm_law_pull (mCons (mVar 0) (mCons (mBin vAdd (mCallV vLen (mCons (mVar 2) mNil)) (mC (.int 1))) mNil))) (mCons (mVar 3) mNil)))))
    (sRet (mFrz (mVar 2)))))
theorem pull_mod {n : Int} (h0 : 0 < n) (z : Int) : 0 ≤ z % n ∧ z % n < n := ⟨Int.emod_nonneg _ (by omega), Int.emod_lt_of_pos _ h0⟩
theorem GB.mk {ns : List Int} {a b s : Int} (ha : 0 ≤ a) (hb : 0 ≤ b) (hs : 0 ≤ s ∧ s < 2147483587) : GB (Cell.lst [W.p (P.lst (List.map P.int ns)), W.p (P.int a), W.p (P.int b), W.p (P.int s)]) := ⟨ns, a, b, s, rfl, ha, hb, hs.1, hs.2⟩
theorem pull_bg {n : Int} (h0 : 0 < n) (h1 : n.natAbs.log2 < 9000) : Bg sm_law_pull [.int n] fun x => ∃ k : Int, x = .int k ∧ 0 ≤ k ∧ k < n := by
  rintro c ⟨ns, a, b, s, rfl, ha, hb, hs, hs2⟩
  have m1 : mulOk s 45989 = true := mulOk_of (Sm.small (by omega)) (Sm.small (by omega))
  have m2 : ∀ z : Int, mulOk (z % 2147483423) 1409 = true := fun z => mulOk_of (Sm.small (by omega)) (Sm.small (by omega))
  have m3 : ∀ z : Int, mulOk (z % 2147483587) (z % 2147483587) = true := fun z => mulOk_of (Sm.small (by omega)) (Sm.small (by omega))
  have m4 : ∀ z : Int, mulOk (z % 2147483587) 31013 = true := fun z => mulOk_of (Sm.small (by omega)) (Sm.small (by omega))
  have m5 : ∀ z : Int, mulOk (z % 8087) 61 = true := fun z => mulOk_of (Sm.small (by omega)) (Sm.small (by omega))
  have m6 : mulOk s s = true := mulOk_of (Sm.small (by omega)) (Sm.small (by omega))
  have m7 : mulOk s 31013 = true := mulOk_of (Sm.small (by omega)) (Sm.small (by omega))
  have l71 : Nat.log2 71 < 9000 := by decide
  have pm := pull_mod h0
  have p7 := pull_mod (n := 2147483587) (by decide)
  have qn : 0 ≤ b / n := Int.ediv_nonneg hb (by omega)
  by_cases hc : b = 0 ∧ a < ns.length
  · obtain ⟨rfl, hl⟩ := hc
    have hx : L2.atI (ns.map P.int) a = some (.int (ns[a.toNat]'(by omega))) := by
      rw [atI_nat ha, List.getElem?_map, List.getElem?_eq_getElem (by omega)]; rfl
    generalize ns[a.toNat]'(by omega) = x at hx
    by_cases hb2 : (1000000000000000000 : Int) ≤ x
    · have hx0 : 0 < x := by omega
      have hxn : 0 ≤ x / n := Int.ediv_nonneg (by omega) (by omega)
      simp [sm_law_pull, runF_e, bagC, hl, hx, hb2, hx0, h0, h1, GB.mk (show 0 ≤ a + 1 by omega) hxn ⟨hs, hs2⟩, pm]
    · simp [sm_law_pull, runF_e, bagC, hl, hx, hb2, m1, m2, m3, m4, m5, l71, h0, h1, GB.mk (show 0 ≤ a + 1 by omega) (Int.le_refl 0) (p7 _), pm]
  · have hc' : b = 0 → ¬ a < ns.length := fun e h => hc ⟨e, h⟩
    by_cases hb0 : b = 0
    · subst hb0
      simp [sm_law_pull, runF_e, bagC, hc' rfl, m6, m7, m5, l71, h0, h1, GB.mk ha (Int.le_refl 0) (p7 _), pm]
    · have hb1 : 0 < b := by omega
      simp [sm_law_pull, runF_e, bagC, hb0, hb1, h0, h1, GB.mk ha qn ⟨hs, hs2⟩, pm]
/-- the bag that is made first -/
theorem bag_make (ns : List Int) : ∃ c, callF sm_law_bag [.p (.scr ns)] [] = .ok (.r 0) [c] ∧ GB c := by
  have e2 : ∃ s, sm_law_bag [.p (.scr ns)] [] = .ok (.r 0) [bagC (ns.take 63) 0 0 s] ∧ 0 ≤ s ∧ s < 2147483587 := by
    simp [sm_law_bag, runF_e]
    refine forL_rule (fun r => ∃ s : Int, runR (r.then _) = Res.ok (W.r 0) [bagC (List.take 63 ns) 0 0 s] ∧ 0 ≤ s ∧ s < 2147483587) (fun _ σ st => ∃ s x, σ = [some (.p (.scr ns)), some (.p (.int s)), x] ∧ st = [] ∧ 0 ≤ s ∧ s < 2147483587) ⟨3845, none, rfl, rfl, by decide, by decide⟩ ?_ ?_
    · rintro i w σ st hw ⟨s, x, rfl, rfl, h1, h2⟩
      have hm := List.mem_of_mem_take (List.mem_of_getElem? hw)
      obtain ⟨z, hz, rfl⟩ := List.mem_map.mp hm
      have m1 : mulOk s 48611 = true := mulOk_of (Sm.small (by omega)) (Sm.small (by omega))
      conv => arg 3; simp [m1]
      exact ⟨_, _, rfl, rfl, by omega, by omega⟩
    · rintro σ st ⟨s, x, rfl, rfl, h1, h2⟩
      refine ⟨s, ?_, h1, h2⟩
      simp [bagC]
  obtain ⟨s, e2, h1, h2⟩ := e2
  refine ⟨bagC (ns.take 63) 0 0 s, ?_, ns.take 63, 0, 0, s, rfl, by decide, by decide, h1, h2⟩
  unfold callF
  simp [argRefs, argIn, Y.getCells, e2, Y.callEnd, Y.putCells, bagC, plainC, content]
theorem small_log {n : Int} (h0 : 0 ≤ n) (h : n ≤ 1000000000) : n.natAbs.log2 < 9000 := Nat.lt_trans (log2_lt (k := 30) (by have : (2:Nat)^30 = 1073741824 := rfl; omega) (by decide)) (by decide)
theorem of_bg {l : List P} (h : l ≠ []) (h1 : l.length ≤ 1000000) : Bg sm_law_of [.lst l] fun x => x ∈ l := by
  intro c hc
  have hl : 0 < l.length := List.length_pos_iff.mpr h
  obtain ⟨r, c', e, hc', k, rfl, k0, k1⟩ := (pull_bg (n := l.length) (by omega) (small_log (by omega) (by omega))).call1 hc []
  have hk : L2.atI l k = some (l[k.toNat]'(by omega)) := by rw [atI_nat k0, List.getElem?_eq_getElem (by omega)]
  simp [sm_law_of, runF_e, e, hk, hc']
/-- the items in another order -/
theorem mixed_bg {l : List P} (h1 : l.length < 100000) : Bg sm_law_mixed [.lst l] fun x => ∃ m, x = .lst m ∧ m.Perm l := by
  intro c hc
  simp [sm_law_mixed, runF_e]
  refine forL_rule (fun r => Gb _ (runR (r.then _))) (fun i σ st => ∃ x m c', σ = [some (.r 0), some (.p (.lst l)), some (.r 1), x] ∧ st = [c', .lst (m.map W.p)] ∧ GB c' ∧ m.Perm (l.take i)) ⟨none, [], c, rfl, rfl, hc, .nil⟩ ?_ ?_
  · rintro i w σ st hw ⟨x, m, c1, rfl, rfl, h1c, hp⟩
    rw [List.getElem?_map] at hw
    obtain ⟨y, hy, rfl⟩ := Option.map_eq_some_iff.mp hw
    have hi : i < l.length := (List.getElem?_eq_some_iff.mp hy).1
    have hml : m.length = i := by rw [hp.length_eq, List.length_take]; omega
    obtain ⟨r, c2, e, hc2, k, rfl, k0, k1⟩ := (pull_bg (n := m.length + 1) (by omega) (small_log (by omega) (by omega))).call1 h1c [.lst (m.map W.p)]
    conv => arg 3; simp [e, k0, show m.length < 1000000 by omega, show k ≤ 1000000 by omega]
    refine ⟨_, m.take k.toNat ++ y :: m.drop k.toNat, c2, rfl, by simp, hc2, ?_⟩
    rw [List.take_add_one, hy]
    refine List.perm_middle.trans ?_
    rw [List.take_append_drop]
    refine List.Perm.trans (List.Perm.cons y hp) ?_
    exact (List.perm_append_singleton y _).symm
  · rintro σ st ⟨x, m, c', rfl, rfl, hc', hp⟩
    rw [List.length_map, List.take_of_length_le (Nat.le_refl _)] at hp
    simp [hc', hp]
end YS

/-! questions: what the program does with good trees -/
namespace YS
open PySem PySem.Spec PyProof.Rows L2 Y YZ
def tab_SIGNS_OF : List (Str × Str) := [("at least", ">="), ("at most", "<="), ("equal", "=")]
def sm_is_number : FM := runF 1 1 (sRet (mAndV (mIsi "int" (mVar 0)) (mNotV (mIsi "bool" (mVar 0)))))
def sm_is_within : FM := runF 3 3 (sRet (mAndV (mCallF sm_is_number (mCons (mVar 0) mNil)) (mChain vLe vLe (mVar 1) (mVar 0) (mVar 2))))
def sm_are_factors : FM := runF 1 2 (sSeq (sIf (mOrT (mNotT (mTru (mIsi "tuple" (mVar 0)))) (mOrT (mTst (mBin (vEqB true) (mCallV vLen (mCons (mVar 0) mNil)) (mC (.int 3)))) (mNotT (mTru (mCallV (vAnyG fun bs => bs.any id) (mCons (mVar 0) mNil)))))) (sRet (mC (.bl false))) sNx)
    (sRet (mCallV (vAnyG fun bs => bs.all id) (mCons (mLc (mSrc (mVar 0)) (.nm 1) [1] mYes (mCallF sm_is_within (mCons (mVar 1) (mCons (mBin vSub (mC (.int 0)) (mC (.int 3))) (mCons (mC (.int 3)) mNil)))) finP) mNil))))
def sm_is_atom : FM := runF 1 1 (sSeq (sIf (mTst (mBin (vEqB false) (mBin vIx (mVar 0) (mC (.int 0))) (mC (.str "rest")))) (sSeq (sIf (mOrT (mTst (mBin (vEqB true) (mCallV vLen (mCons (mVar 0) mNil)) (mC (.int 4)))) (mOrT (mNotT (mTru (mCallF sm_are_factors (mCons (mBin vIx (mVar 0) (mC (.int 1))) mNil)))) (mNotT (mTru (mCallF sm_is_within (mCons (mBin vIx (mVar 0) (mC (.int 2))) (mCons (mC (.int 2)) (mCons (mC (.int 5)) mNil)))))))) (sRet (mC (.bl false))) sNx)
    (sRet (mCallF sm_is_within (mCons (mBin vIx (mVar 0) (mC (.int 3))) (mCons (mC (.int 0)) (mCons (mBin vSub (mBin vIx (mVar 0) (mC (.int 2))) (mC (.int 1))) mNil)))))) sNx)
    (sSeq (sIf (mOrT (mTst (mInT tab_SIGNS_OF true (mBin vIx (mVar 0) (mC (.int 0))))) (mTst (mBin (vEqB true) (mCallV vLen (mCons (mVar 0) mNil)) (mC (.int 3))))) (sRet (mC (.bl false))) sNx)
    (sRet (mAndV (mCallF sm_are_factors (mCons (mBin vIx (mVar 0) (mC (.int 1))) mNil)) (mCallF sm_is_within (mCons (mBin vIx (mVar 0) (mC (.int 2))) (mCons (mBin vSub (mC (.int 0)) (mC (.int 9))) (mCons (mC (.int 9)) mNil))))))))
def sm_is_tree : Nat → FM
  | 0 => fun _ _ => .no
  | n + 1 => runF 2 5 (sSeq (sIf (mOrT (mNotT (mTru (mIsi "tuple" (mVar 0)))) (mOrT (mTst (mBin (vEqB false) (mVar 0) (mTup mNil))) (mOrT (mNotT (mTru (mIsi "str" (mBin vIx (mVar 0) (mC (.int 0)))))) (mTst (mBin vGt (mVar 1) (mC (.int 4))))))) (sRet (mC (.bl false))) sNx)
    (sSeq (sStar 2 3 (mVar 0))
    (sSeq (sIf (mTst (mBin (vEqB false) (mVar 2) (mC (.str "not")))) (sRet (mAndV (mBin (vEqB false) (mCallV vLen (mCons (mVar 3) mNil)) (mC (.int 1))) (mCallF (sm_is_tree n) (mCons (mBin vIx (mVar 3) (mC (.int 0))) (mCons (mBin vAdd (mVar 1) (mC (.int 1))) mNil))))) sNx)
    (sSeq (sIf (mTst (mBin (vInB false) (mVar 2) (mTup (mCons (mC (.str "and")) (mCons (mC (.str "or")) mNil))))) (sRet (mAndV (mChain vLe vLe (mC (.int 2)) (mCallV vLen (mCons (mVar 3) mNil)) (mC (.int 4))) (mCallV (vAnyG fun bs => bs.all id) (mCons (mLc (mSrc (mVar 3)) (.nm 4) [4] mYes (mCallF (sm_is_tree n) (mCons (mVar 4) (mCons (mBin vAdd (mVar 1) (mC (.int 1))) mNil))) finP) mNil)))) sNx)
    (sRet (mCallF sm_is_atom (mCons (mVar 0) mNil)))))))
def sm_atoms_in : Nat → FM
  | 0 => fun _ _ => .no
  | n + 1 => runF 1 3 (sSeq (sIf (mTst (mBin (vInB false) (mBin vIx (mVar 0) (mC (.int 0))) (mTup (mCons (mC (.str "not")) (mCons (mC (.str "and")) (mCons (mC (.str "or")) mNil)))))) (sRet (mLc2 (mSrc (mSl (mVar 0) (oSome (mC (.int 1))) oNone)) (.nm 1) [1, 2] mYes (mSrc (mCallF (sm_atoms_in n) (mCons (mVar 1) mNil))) (.nm 2) [2] mYes (mVar 2) finP)) sNx)
    (sRet (mLst (mCons (mVar 0) mNil))))
def sm_sum_text : FM := runF 1 6 (sSeq (sSet 1 (mC (.str "")))
    (sSeq (sFor (mZipA (mVar 0) (mC (.str "abc"))) (.tp [(.nm 2), (.nm 3)]) (sSeq (sIf (mTst (mBin (vEqB false) (mVar 2) (mC (.int 0)))) sCnt sNx)
    (sSeq (sSet 4 (mIfE (mTst (mBin vLt (mVar 2) (mC (.int 0)))) (mC (.str "-")) (mC (.str "+"))))
    (sSeq (sSet 5 (mIfE (mTst (mBin (vEqB true) (mVar 1) (mC (.str "")))) (jsF [(mC (.str " ")), (mFmt (mVar 4)), (mC (.str " "))] Str.empty) (mIfE (mTst (mBin vLt (mVar 2) (mC (.int 0)))) (mC (.str "-")) (mC (.str "")))))
    (sSet 1 (mBin vAdd (mBin vAdd (mVar 1) (mVar 5)) (mIfE (mTst (mBin (vEqB false) (mCallV vAbs (mCons (mVar 2) mNil)) (mC (.int 1)))) (mVar 3) (jsF [(mFmt (mCallV vAbs (mCons (mVar 2) mNil))), (mC (.str "*")), (mFmt (mVar 3))] Str.empty))))))))
    (sRet (mVar 1))))
def sm_tree_text : Nat → FM
  | 0 => fun _ _ => .no
  | n + 1 => runF 1 6 (sSeq (sStar 1 2 (mVar 0))
    (sSeq (sIf (mTst (mBin (vEqB false) (mVar 1) (mC (.str "rest")))) (sRet (jsF [(mFmt (mCallF sm_sum_text (mCons (mBin vIx (mVar 2) (mC (.int 0))) mNil))), (mC (.str " mod ")), (mFmt (mBin vIx (mVar 2) (mC (.int 1)))), (mC (.str " = ")), (mFmt (mBin vIx (mVar 2) (mC (.int 2))))] Str.empty)) sNx)
    (sSeq (sIf (mTst (mInT tab_SIGNS_OF false (mVar 1))) (sRet (jsF [(mFmt (mCallF sm_sum_text (mCons (mBin vIx (mVar 2) (mC (.int 0))) mNil))), (mC (.str " ")), (mFmt (mGetT tab_SIGNS_OF (mVar 1))), (mC (.str " ")), (mFmt (mBin vIx (mVar 2) (mC (.int 1))))] Str.empty)) sNx)
    (sSeq (sSet 3 (mDGet (mDisp ["not", "and", "or"] [(mTup (mCons (mC (.str "and")) (mCons (mC (.str "or")) mNil))), (mTup (mCons (mC (.str "and")) (mCons (mC (.str "or")) mNil))), (mTup (mCons (mC (.str "or")) mNil))]) (mVar 1)))
    (sSeq (sSet 4 (mLc (mSrc (mVar 2)) (.nm 5) [5] mYes (mIfE (mTst (mBin (vInB false) (mBin vIx (mVar 5) (mC (.int 0))) (mVar 3))) (jsF [(mC (.str "(")), (mFmt (mCallF (sm_tree_text n) (mCons (mVar 5) mNil))), (mC (.str ")"))] Str.empty) (mCallF (sm_tree_text n) (mCons (mVar 5) mNil))) finP))
    (sRet (mIfE (mTst (mBin (vEqB false) (mVar 1) (mC (.str "not")))) (jsF [(mC (.str "not ")), (mFmt (mBin vIx (mVar 4) (mC (.int 0))))] Str.empty) (mBm "str" vJoin (jsF [(mC (.str " ")), (mFmt (mVar 1)), (mC (.str " "))] Str.empty) (mCons (mVar 4) mNil)))))))))
def sm_Question_init : FM := runF 2 2 (sSeq (sIf (mNotT (mTru (mCallF (sm_is_tree 12) (mCons (mVar 1) (mCons (mC (.int 1)) mNil))))) sNo sNx)
    (sSeq (sIf (mTst (mBin vGt (mCallV vLen (mCons (mCallF (sm_atoms_in 12) (mCons (mVar 1) mNil)) mNil)) (mC (.int 3)))) sNo sNx)
    (sSeq (sSetF [(0, 0)] (mVar 0) (mVar 1))
    (sSeq (sSetF [(0, 1)] (mVar 0) (mCallF (sm_atoms_in 12) (mCons (mVar 1) mNil)))
    (sSetF [(0, 2)] (mVar 0) (mCallF (sm_tree_text 12) (mCons (mVar 1) mNil)))))))
def sm_need_counts : FM := runF 1 2 (sSeq (sIf (mOrT (mNotT (mTru (mIsi "tuple" (mVar 0)))) (mTst (mBin (vEqB true) (mCallV vLen (mCons (mVar 0) mNil)) (mC (.int 3))))) sNo sNx)
    (sIf (mNotT (mTru (mCallV (vAnyG fun bs => bs.all id) (mCons (mLc (mSrc (mVar 0)) (.nm 1) [1] mYes (mAndV (mCallF sm_is_number (mCons (mVar 1) mNil)) (mBin vGe (mVar 1) (mC (.int 0)))) finP) mNil)))) sNo sNx))
def sm_joined : Nat → FM
  | 0 => fun _ _ => .no
  | n + 1 => runF 2 8 (sSeq (sStar 2 3 (mVar 0))
    (sSeq (sIf (mTst (mBin (vInB true) (mVar 2) (mTup (mCons (mC (.str "not")) (mCons (mC (.str "and")) (mCons (mC (.str "or")) mNil)))))) (sRet (mBin vIx (mVar 1) (mC (.int 0)))) sNx)
    (sSeq (sPar 4 5 (mCons (mLstC mNil) (mCons (mC (.int 0)) mNil)))
    (sSeq (sFor (mSrc (mVar 3)) (.nm 6) (sSeq (sSet 7 (mCallV vLen (mCons (mCallF (sm_atoms_in 12) (mCons (mVar 6) mNil)) mNil)))
    (sSeq (sExpr (mBm "list" vAppend (mVar 4) (mCons (mCallF (sm_joined n) (mCons (mVar 6) (mCons (mSl (mVar 1) (oSome (mVar 5)) (oSome (mBin vAdd (mVar 5) (mVar 7)))) mNil))) mNil)))
    (sAug 5 vIadd (mVar 7)))))
    (sSeq (sIf (mTst (mBin (vEqB false) (mVar 2) (mC (.str "not")))) (sRet (mNotV (mBin vIx (mVar 4) (mC (.int 0))))) sNx)
    (sRet (mIfE (mTst (mBin (vEqB false) (mVar 2) (mC (.str "and")))) (mCallV (vAnyG fun bs => bs.all id) (mCons (mVar 4) mNil)) (mCallV (vAnyG fun bs => bs.any id) (mCons (mVar 4) mNil)))))))))
def sm_weighed : FM := runF 2 4 (sRet (mCallV vSumS (mCons (mLc (mZipA (mVar 0) (mVar 1)) (.tp [(.nm 2), (.nm 3)]) [2, 3] mYes (mBin vMulI (mVar 2) (mVar 3)) finP) mNil)))
def sm_atom_answer : FM := runF 2 3 (sSeq (sSet 2 (mCallF sm_weighed (mCons (mBin vIx (mVar 0) (mC (.int 1))) (mCons (mVar 1) mNil))))
    (sSeq (sMatch (mBin vIx (mVar 0) (mC (.int 0))) [("at least", (sRet (mBin vGe (mVar 2) (mBin vIx (mVar 0) (mC (.int 2)))))), ("at most", (sRet (mBin vLe (mVar 2) (mBin vIx (mVar 0) (mC (.int 2)))))), ("equal", (sRet (mBin (vEqB false) (mVar 2) (mBin vIx (mVar 0) (mC (.int 2))))))])
    (sRet (mBin (vEqB false) (mBin vMod (mVar 2) (mBin vIx (mVar 0) (mC (.int 2)))) (mBin vIx (mVar 0) (mC (.int 3)))))))
def sm_far_atom : FM := runF 2 3 (sSeq (sSet 2 (mCallF sm_weighed (mCons (mBin vIx (mVar 0) (mC (.int 1))) (mCons (mVar 1) mNil))))
    (sSeq (sIf (mTst (mBin (vEqB false) (mBin vIx (mVar 0) (mC (.int 0))) (mC (.str "rest")))) (sRet (mBin (vEqB false) (mBin vIx (mVar 0) (mC (.int 3))) (mC (.int 0)))) sNx)
    (sSeq (sIf (mTst (mBin (vEqB false) (mVar 2) (mC (.int 0)))) (sRet (mCallF sm_atom_answer (mCons (mVar 0) (mCons (mTup (mCons (mC (.int 0)) (mCons (mC (.int 0)) (mCons (mC (.int 0)) mNil)))) mNil)))) sNx)
    (sRet (mAndV (mBin (vEqB false) (mBin vGt (mVar 2) (mC (.int 0))) (mBin (vEqB false) (mBin vIx (mVar 0) (mC (.int 0))) (mC (.str "at least")))) (mBin (vEqB true) (mBin vIx (mVar 0) (mC (.int 0))) (mC (.str "equal"))))))))
def sm_Question_far : FM := runF 2 3 (sSeq (sExpr (mCallF sm_need_counts (mCons (mVar 1) mNil)))
    (sRet (mCallF (sm_joined 12) (mCons (mFld [(0, 0)] (mVar 0)) (mCons (mLc (mSrc (mFld [(0, 1)] (mVar 0))) (.nm 2) [2] mYes (mCallF sm_far_atom (mCons (mVar 2) (mCons (mVar 1) mNil))) finP) mNil)))))
def sm_Question_answer : FM := runF 2 3 (sSeq (sExpr (mCallF sm_need_counts (mCons (mVar 1) mNil)))
    (sRet (mCallF (sm_joined 12) (mCons (mFld [(0, 0)] (mVar 0)) (mCons (mLc (mSrc (mFld [(0, 1)] (mVar 0))) (.nm 2) [2] mYes (mCallF sm_atom_answer (mCons (mVar 2) (mCons (mVar 1) mNil))) finP) mNil)))))
def sm_Question_invert : FM := runF 1 1 (sRet (mMake 0 3 sm_Question_init (mCons (mTup (mCons (mC (.str "not")) (mCons (mFld [(0, 0)] (mVar 0)) mNil))) mNil)))

inductive Wd where
  | ge | le | eq
def Wd.s : Wd → Str
  | .ge => Str.ofString "at least"
  | .le => Str.ofString "at most"
  | .eq => Str.ofString "equal"
inductive Tr where
  | at (w : Wd) (a b c n : Int)
  | rest (a b c d n : Int)
  | no (t : Tr)
  | op (b : Bool) (l : List Tr)
abbrev T3 (a b c : Int) : P := .tup [.int a, .int b, .int c]
def opw (b : Bool) : Str := if b = true then Str.ofString "and" else Str.ofString "or"
mutual
def Tr.enc : Tr → P
  | .at w a b c n => .tup [.str w.s, T3 a b c, .int n]
  | .rest a b c d n => .tup [.str (Str.ofString "rest"), T3 a b c, .int d, .int n]
  | .no t => .tup [.str (Str.ofString "not"), t.enc]
  | .op b l => .tup (.str (opw b) :: Tr.encs l)
def Tr.encs : List Tr → List P
  | [] => []
  | t :: l => t.enc :: Tr.encs l
end
mutual
def Tr.depth : Tr → Nat
  | .at .. => 1
  | .rest .. => 1
  | .no t => t.depth + 1
  | .op _ l => Tr.depths l + 1
def Tr.depths : List Tr → Nat
  | [] => 0
  | t :: l => max t.depth (Tr.depths l)
end
mutual
def Tr.atoms : Tr → List Tr
  | .at w a b c n => [.at w a b c n]
  | .rest a b c d n => [.rest a b c d n]
  | .no t => t.atoms
  | .op _ l => Tr.atomss l
def Tr.atomss : List Tr → List Tr
  | [] => []
  | t :: l => t.atoms ++ Tr.atomss l
end
mutual
def Tr.ev (g : Tr → Bool) : Tr → Bool
  | .at w a b c n => g (.at w a b c n)
  | .rest a b c d n => g (.rest a b c d n)
  | .no t => !t.ev g
  | .op b l => if b = true then (Tr.evs g l).all id else (Tr.evs g l).any id
def Tr.evs (g : Tr → Bool) : List Tr → List Bool
  | [] => []
  | t :: l => t.ev g :: Tr.evs g l
end
def F3 (a b c : Int) : Prop := (-3 ≤ a ∧ a ≤ 3) ∧ (-3 ≤ b ∧ b ≤ 3) ∧ (-3 ≤ c ∧ c ≤ 3) ∧ ¬ (a = 0 ∧ b = 0 ∧ c = 0)
mutual
def Tr.good : Tr → Prop
  | .at _ a b c n => F3 a b c ∧ -9 ≤ n ∧ n ≤ 9
  | .rest a b c d n => F3 a b c ∧ 2 ≤ d ∧ d ≤ 5 ∧ 0 ≤ n ∧ n < d
  | .no t => t.good
  | .op _ l => 2 ≤ l.length ∧ l.length ≤ 4 ∧ Tr.goods l
def Tr.goods : List Tr → Prop
  | [] => True
  | t :: l => t.good ∧ Tr.goods l
end
theorem encs_map : ∀ l : List Tr, Tr.encs l = l.map Tr.enc
  | [] => rfl
  | t :: l => by rw [Tr.encs, encs_map l]; rfl
theorem evs_map (g : Tr → Bool) : ∀ l : List Tr, Tr.evs g l = l.map (Tr.ev g)
  | [] => rfl
  | t :: l => by rw [Tr.evs, evs_map g l]; rfl
theorem goods_all : ∀ {l : List Tr}, Tr.goods l ↔ ∀ t ∈ l, t.good
  | [] => by simp [Tr.goods]
  | t :: l => by rw [Tr.goods, goods_all]; simp
theorem depths_le : ∀ {l : List Tr} {t : Tr}, t ∈ l → t.depth ≤ Tr.depths l
  | u :: l, t, h => by
    rw [Tr.depths]
    rcases List.mem_cons.mp h with rfl | h
    · exact Nat.le_max_left _ _
    · exact Nat.le_trans (depths_le h) (Nat.le_max_right _ _)
theorem atomss_flat : ∀ l : List Tr, Tr.atomss l = l.flatMap Tr.atoms
  | [] => rfl
  | t :: l => by rw [Tr.atomss, atomss_flat l]; rfl

/-! ### is it a tree -/
theorem is_number_int (i : Int) (st : List Cell) : callF sm_is_number [.p (.int i)] st = .ok (.p (.bl true)) st := by
  refine Pu.call1 (Pu.of1 ?_) st
  simp [sm_is_number, runF_e]
theorem is_within_int (i a b : Int) (st : List Cell) : callF sm_is_within [.p (.int i), .p (.int a), .p (.int b)] st = .ok (.p (.bl (decide (a ≤ i ∧ i ≤ b)))) st := by
  refine Pu.call3 (Pu.of3 ?_) st
  by_cases h : a ≤ i <;> by_cases h2 : i ≤ b <;> simp [sm_is_within, runF_e, is_number_int, h, h2]
theorem are_factors_ok {a b c : Int} (h : F3 a b c) (st : List Cell) : callF sm_are_factors [.p (T3 a b c)] st = .ok (.p (.bl true)) st := by
  refine Pu.call1 (Pu.of1 ?_) st
  obtain ⟨h1, h2, h3, h4⟩ := h
  simp [sm_are_factors, runF_e, lcL_cons, lcL_nil, is_within_int, h1, h2, h3]
  omega
theorem Wd.lk (w : Wd) : (tab_SIGNS_OF.lookup w.s).isSome = true := by cases w <;> decide +kernel
theorem Wd.nr (w : Wd) : (w.s == Str.ofString "rest") = false := by cases w <;> simp [Wd.s]
theorem Wd.ne (w : Wd) : w.s ≠ Str.ofString "not" ∧ w.s ≠ Str.ofString "and" ∧ w.s ≠ Str.ofString "or" ∧ w.s ≠ Str.ofString "rest" ∧ Str.ofString "not" ≠ w.s ∧ Str.ofString "and" ≠ w.s ∧ Str.ofString "or" ≠ w.s ∧ Str.ofString "rest" ≠ w.s := by cases w <;> simp [Wd.s]
theorem is_atom_at {w : Wd} {a b c n : Int} (h : Tr.good (.at w a b c n)) (st : List Cell) : callF sm_is_atom [.p (.tup [.str w.s, T3 a b c, .int n])] st = .ok (.p (.bl true)) st := by
  refine Pu.call1 (Pu.of1 ?_) st
  rw [Tr.good] at h
  simp [sm_is_atom, runF_e, Wd.nr, Wd.lk, are_factors_ok h.1, is_within_int, h.2]
theorem is_atom_rest {a b c d n : Int} (h : Tr.good (.rest a b c d n)) (st : List Cell) : callF sm_is_atom [.p (.tup [.str (Str.ofString "rest"), T3 a b c, .int d, .int n])] st = .ok (.p (.bl true)) st := by
  refine Pu.call1 (Pu.of1 ?_) st
  rw [Tr.good] at h
  simp [sm_is_atom, runF_e, are_factors_ok h.1, is_within_int, h.2.1, h.2.2.1, h.2.2.2.1, show n ≤ d - 1 by omega]
theorem okP_enc : ∀ (n : Nat) (t : Tr), t.depth ≤ n → okP (n + 1) t.enc = true := by
  intro n
  induction n with
  | zero => intro t h; cases t <;> rw [Tr.depth] at h <;> omega
  | succ n ih =>
    intro t h
    cases t with
    | «at» w a b c k => rw [Tr.enc]; cases w <;> simp [Wd.s]
    | rest a b c d k => rw [Tr.enc]; simp
    | no t =>
      rw [Tr.depth] at h
      rw [Tr.enc]; simp [ih t (by omega)]
    | op b l =>
      rw [Tr.depth] at h
      rw [Tr.enc, encs_map]
      have : ∀ t ∈ l, okP (n + 1) t.enc = true := fun t m => ih t (by have := depths_le m; omega)
      cases b <;> simp [opw] <;> exact this
theorem is_tree_ok : ∀ (n : Nat) (t : Tr) (d : Int), t.good → t.depth ≤ n → n ≤ 50 → d + t.depth ≤ 5 → ∀ st, callF (sm_is_tree n) [.p t.enc, .p (.int d)] st = .ok (.p (.bl true)) st := by
  intro n
  induction n with
  | zero => intro t d _ h; cases t <;> rw [Tr.depth] at h <;> omega
  | succ n ih =>
    intro t d hg h hn hd st
    refine Pu.call2 (Pu.of2 ?_) st
    have ok := okP_enc 63 t (by omega)
    cases t with
    | «at» w a b c k =>
      rw [Tr.depth] at hd
      rw [Tr.enc] at ok ⊢
      simp [sm_is_tree, runF_e, vEqB_nilT ok, show ¬ 4 < d by omega, w.ne, is_atom_at hg]
    | rest a b c e k =>
      rw [Tr.depth] at hd
      rw [Tr.enc] at ok ⊢
      simp [sm_is_tree, runF_e, vEqB_nilT ok, show ¬ 4 < d by omega, is_atom_rest hg]
    | no t =>
      rw [Tr.depth] at hd h
      rw [Tr.enc] at ok ⊢
      rw [Tr.good] at hg
      simp [sm_is_tree, runF_e, vEqB_nilT ok, show ¬ 4 < d by omega, ih t (d + 1) hg (by omega) (by omega) (by omega)]
    | op b l =>
      rw [Tr.depth] at hd h
      rw [Tr.enc, encs_map] at ok ⊢
      rw [Tr.good, goods_all] at hg
      have nt := fun st => vEqB_nilT (st := st) (n := false) ok
      clear ok
      cases b <;> simp [opw] at nt ⊢ <;> simp [sm_is_tree, runF_e, nt, show ¬ 4 < d by omega, hg.1, hg.2.1, show l.length < 16384 by omega, show l.length ≤ 1000000 by omega, show (2 : Int) ≤ l.length by omega, show (l.length : Int) ≤ 4 by omega]
      all_goals rw [lcL_mapF (fun _ => .bl true) (fun t mt => by
        have := depths_le mt
        exact ⟨_, put_nm _ _, by simp [ih t (d + 1) (hg.2.2 t mt) (by omega) (by omega) (by omega)]⟩)]
      all_goals simp
theorem atoms_few : ∀ (n : Nat) (t : Tr), t.good → t.depth ≤ n → t.atoms.length ≤ 4 ^ n := by
  intro n
  induction n with
  | zero => intro t _ h; cases t <;> rw [Tr.depth] at h <;> omega
  | succ n ih =>
    intro t hg h
    have p : 1 ≤ 4 ^ n := Nat.one_le_pow _ _ (by decide)
    rw [Nat.pow_succ]
    cases t with
    | «at» w a b c k => simp [Tr.atoms]; omega
    | rest a b c d k => simp [Tr.atoms]; omega
    | no t =>
      rw [Tr.depth] at h
      rw [Tr.good] at hg
      rw [Tr.atoms]
      have := ih t hg (by omega)
      omega
    | op b l =>
      rw [Tr.depth] at h
      rw [Tr.good, goods_all] at hg
      rw [Tr.atoms, atomss_flat]
      have : ∀ m : List Tr, (∀ t ∈ m, t ∈ l) → (m.flatMap Tr.atoms).length ≤ m.length * 4 ^ n := by
        intro m
        induction m with
        | nil => intro _; simp
        | cons t m ihm =>
          intro hm
          have h1 := ihm fun t mt => hm t (List.mem_cons_of_mem _ mt)
          have ht := hm t List.mem_cons_self
          have h2 := ih t (hg.2.2 t ht) (by have := depths_le ht; omega)
          rw [List.flatMap_cons, List.length_append, List.length_cons, Nat.succ_mul]
          omega
      have h3 := this l fun _ m => m
      have h4 : l.length * 4 ^ n ≤ 4 * 4 ^ n := Nat.mul_le_mul_right _ hg.2.1
      omega
theorem atoms_in_ok : ∀ (n : Nat) (t : Tr), t.good → t.depth ≤ n → t.depth ≤ 4 → ∀ st, callF (sm_atoms_in n) [.p t.enc] st = .ok (.p (.lst (t.atoms.map Tr.enc))) st := by
  intro n
  induction n with
  | zero => intro t _ h; cases t <;> rw [Tr.depth] at h <;> omega
  | succ n ih =>
    intro t hg h h4 st
    refine Pu.call1 (Pu.of1 ?_) st
    cases t with
    | «at» w a b c k => simp [sm_atoms_in, runF_e, Tr.enc, Tr.atoms, w.ne]
    | rest a b c d k => simp [sm_atoms_in, runF_e, Tr.enc, Tr.atoms]
    | no t =>
      rw [Tr.depth] at h h4
      rw [Tr.good] at hg
      rw [Tr.enc]
      have few := atoms_few 4 t hg (by omega)
      simp [sm_atoms_in, runF_e, Tr.atoms]
      rw [show [W.p t.enc] = [t].map (fun t => W.p t.enc) from rfl, lc2K_F (fun t => t.atoms.map Tr.enc) (fun _ u => u) (by simp) ?_]
      · simp
      · intro u m
        obtain rfl : u = t := by simpa using m
        exact ⟨by rw [List.length_map]; omega, _, put_nm _ _, by simp [ih u hg (by omega) (by omega)], fun x _ => ⟨_, put_nm _ _, by simp⟩⟩
    | op b l =>
      rw [Tr.depth] at h h4
      rw [Tr.enc, encs_map]
      rw [Tr.good, goods_all] at hg
      cases b <;> simp [sm_atoms_in, runF_e, Tr.atoms, opw]
      all_goals rw [lc2K_F (fun t => t.atoms.map Tr.enc) (fun _ u => u) (by omega) ?_]
      · simp [atomss_flat, List.map_flatMap]; rfl
      · intro u m
        have := depths_le m
        have few := atoms_few 4 u (hg.2.2 u m) (by omega)
        exact ⟨by rw [List.length_map]; omega, _, put_nm _ _, by simp [ih u (hg.2.2 u m) (by omega) (by omega)], fun x _ => ⟨_, put_nm _ _, by simp⟩⟩
      · simp [atomss_flat, List.map_flatMap]; rfl
      · intro u m
        have := depths_le m
        have few := atoms_few 4 u (hg.2.2 u m) (by omega)
        exact ⟨by rw [List.length_map]; omega, _, put_nm _ _, by simp [ih u (hg.2.2 u m) (by omega) (by omega)], fun x _ => ⟨_, put_nm _ _, by simp⟩⟩

/-! ### answers -/
theorem weighed3 {a b c x y z : Int} (h1 : mulOk a x = true) (h2 : mulOk b y = true) (h3 : mulOk c z = true) (st : List Cell) : callF sm_weighed [.p (T3 a b c), .p (T3 x y z)] st = .ok (.p (.int (a * x + (b * y + c * z)))) st := by
  refine Pu.call2 (Pu.of2 ?_) st
  simp [sm_weighed, runF_e, lcL_cons, lcL_nil, h1, h2, h3]
/-- an atom's answer -/
def wt (a b c x y z : Int) : Int := a * x + (b * y + c * z)
def ans (x y z : Int) : Tr → Bool
  | .at .ge a b c n => decide (n ≤ wt a b c x y z)
  | .at .le a b c n => decide (wt a b c x y z ≤ n)
  | .at .eq a b c n => wt a b c x y z == n
  | .rest a b c d n => wt a b c x y z % d == n
  | _ => false
def isAt : Tr → Prop
  | .at .. => True
  | .rest .. => True
  | _ => False
theorem F3.ok {a b c x y z : Int} (h : F3 a b c) (hx : Sm x) (hy : Sm y) (hz : Sm z) : mulOk a x = true ∧ mulOk b y = true ∧ mulOk c z = true := by
  obtain ⟨h1, h2, h3, _⟩ := h
  exact ⟨mulOk_of (Sm.small (by omega)) hx, mulOk_of (Sm.small (by omega)) hy, mulOk_of (Sm.small (by omega)) hz⟩
theorem atom_answer_ok {t : Tr} (ht : isAt t) (hg : t.good) {x y z : Int} (hx : Sm x) (hy : Sm y) (hz : Sm z) (st : List Cell) : callF sm_atom_answer [.p t.enc, .p (T3 x y z)] st = .ok (.p (.bl (ans x y z t))) st := by
  refine Pu.call2 (Pu.of2 ?_) st
  cases t with
  | «at» w a b c n =>
    rw [Tr.good] at hg
    obtain ⟨m1, m2, m3⟩ := F3.ok hg.1 hx hy hz
    cases w <;> simp [sm_atom_answer, runF_e, Tr.enc, Wd.s, weighed3 m1 m2 m3, ans, wt] <;> rfl
  | rest a b c d n =>
    rw [Tr.good] at hg
    obtain ⟨m1, m2, m3⟩ := F3.ok hg.1 hx hy hz
    simp [sm_atom_answer, runF_e, Tr.enc, weighed3 m1 m2 m3, ans, wt, show 0 < d by omega]
  | no t => exact ht.elim
  | op b l => exact ht.elim
def far (x y z : Int) : Tr → Bool
  | .at w a b c n => if wt a b c x y z = 0 then ans 0 0 0 (.at w a b c n) else match w with
    | .ge => decide (0 < wt a b c x y z)
    | .le => decide (wt a b c x y z < 0)
    | .eq => false
  | .rest a b c d n => n == 0
  | _ => false
theorem far_atom_ok {t : Tr} (ht : isAt t) (hg : t.good) {x y z : Int} (hx : Sm x) (hy : Sm y) (hz : Sm z) (st : List Cell) : callF sm_far_atom [.p t.enc, .p (T3 x y z)] st = .ok (.p (.bl (far x y z t))) st := by
  refine Pu.call2 (Pu.of2 ?_) st
  have s0 : Sm 0 := Sm.small (by decide)
  have aa := fun st => atom_answer_ok ht hg s0 s0 s0 st
  cases t with
  | «at» w a b c n =>
    rw [Tr.good] at hg
    obtain ⟨m1, m2, m3⟩ := F3.ok hg.1 hx hy hz
    simp only [Tr.enc] at aa
    by_cases h0 : a * x + (b * y + c * z) = 0
    · cases w <;> simp [Wd.s] at aa <;> simp [sm_far_atom, runF_e, Tr.enc, Wd.s, weighed3 m1 m2 m3, far, wt, h0, aa]
    · cases w <;> simp [sm_far_atom, runF_e, Tr.enc, Wd.s, weighed3 m1 m2 m3, far, wt, h0]
      · by_cases h : 0 < a * x + (b * y + c * z) <;> simp [h]
      · by_cases h : a * x + (b * y + c * z) ≤ 0
        · rw [if_pos h]; exact decide_eq_true (by omega)
        · rw [if_neg h]; exact decide_eq_false (by omega)
  | rest a b c d n =>
    rw [Tr.good] at hg
    obtain ⟨m1, m2, m3⟩ := F3.ok hg.1 hx hy hz
    simp [sm_far_atom, runF_e, Tr.enc, weighed3 m1 m2 m3, far]
  | no t => exact ht.elim
  | op b l => exact ht.elim
theorem need_counts_ok {x y z : Int} (hx : 0 ≤ x) (hy : 0 ≤ y) (hz : 0 ≤ z) (st : List Cell) : callF sm_need_counts [.p (T3 x y z)] st = .ok (.p .non) st := by
  refine Pu.call1 (Pu.of1 ?_) st
  simp [sm_need_counts, runF_e, lcL_cons, lcL_nil, is_number_int, hx, hy, hz]
theorem atoms_at : ∀ (n : Nat) (t : Tr), t.good → t.depth ≤ n → ∀ u ∈ t.atoms, isAt u ∧ u.good := by
  intro n
  induction n with
  | zero => intro t _ h; cases t <;> rw [Tr.depth] at h <;> omega
  | succ n ih =>
    intro t hg h u hu
    cases t with
    | «at» w a b c k => obtain rfl : u = _ := by simpa [Tr.atoms] using hu
                        exact ⟨trivial, hg⟩
    | rest a b c d k => obtain rfl : u = _ := by simpa [Tr.atoms] using hu
                        exact ⟨trivial, hg⟩
    | no t =>
      rw [Tr.depth] at h
      rw [Tr.good] at hg
      rw [Tr.atoms] at hu
      exact ih t hg (by omega) u hu
    | op b l =>
      rw [Tr.depth] at h
      rw [Tr.good, goods_all] at hg
      rw [Tr.atoms, atomss_flat] at hu
      obtain ⟨t, mt, mu⟩ := List.mem_flatMap.mp hu
      exact ih t (hg.2.2 t mt) (by have := depths_le mt; omega) u mu
theorem slice_part {l : List Tr} {i : Nat} {t : Tr} (h : l[i]? = some t) (f : Tr → P) : cutL ((l.flatMap Tr.atoms).map f) (some (((l.take i).flatMap Tr.atoms).length : Nat)) (some (((((l.take i).flatMap Tr.atoms).length : Nat) : Int) + ((t.atoms.length : Nat) : Int))) = t.atoms.map f := by
  rw [cut_mid (by omega) (by omega)]
  have hi : i < l.length := (List.getElem?_eq_some_iff.mp h).1
  have e : l = l.take i ++ t :: l.drop (i + 1) := by
    have := List.take_append_drop i l
    rw [List.drop_eq_getElem_cons hi] at this
    rw [(List.getElem?_eq_some_iff.mp h).2] at this
    exact this.symm
  generalize hk : ((l.take i).flatMap Tr.atoms) = pre
  have e2 : l.flatMap Tr.atoms = pre ++ (t.atoms ++ (l.drop (i + 1)).flatMap Tr.atoms) := by
    rw [← hk]
    conv => lhs; rw [e]
    rw [List.flatMap_append, List.flatMap_cons]
  rw [e2, List.map_append, List.map_append]
  have : (pre.map f).length = pre.length := List.length_map ..
  rw [show (((pre.length : Nat) : Int)).toNat = (pre.map f).length by simp, List.drop_left]
  rw [show (((pre.length : Nat) : Int) + ((t.atoms.length : Nat) : Int)).toNat - (pre.map f).length = (t.atoms.map f).length by simp; omega, List.take_left]
/-- the answer from those of the atoms -/
theorem joined_ok (g : Tr → Bool) : ∀ (n : Nat) (t : Tr), t.good → t.depth ≤ n → t.depth ≤ 4 → ∀ st, callF (sm_joined n) [.p t.enc, .p (.lst (t.atoms.map fun u => .bl (g u)))] st = .ok (.p (.bl (t.ev g))) st := by
  intro n
  induction n with
  | zero => intro t _ h; cases t <;> rw [Tr.depth] at h <;> omega
  | succ n ih =>
    intro t hg h h4 st
    refine Pu.call2 (Pu.of2 ?_) st
    cases t with
    | «at» w a b c k => simp [sm_joined, runF_e, Tr.enc, Tr.atoms, Tr.ev, w.ne]
    | rest a b c d k => simp [sm_joined, runF_e, Tr.enc, Tr.atoms, Tr.ev]
    | no t =>
      rw [Tr.depth] at h h4
      rw [Tr.good] at hg
      rw [Tr.enc, Tr.atoms, Tr.ev]
      have e := cut_mid (l := t.atoms.map fun u => P.bl (g u)) (i := 0) (j := (t.atoms.length : Nat)) (by decide) (by omega)
      rw [List.take_of_length_le (by simp)] at e
      simp at e
      simp [sm_joined, runF_e, forL_cons, forL_nil, atoms_in_ok 12 t hg (by omega) (by omega), e, ih t hg (by omega) (by omega)]
    | op b l =>
      rw [Tr.depth] at h h4
      rw [Tr.enc, encs_map, Tr.atoms, atomss_flat, Tr.ev, evs_map]
      rw [Tr.good, goods_all] at hg
      have lp : ∀ (w : Str) (F : SR → Prop), (∀ x y k, F (.ok .nx [some (.p (.tup (.str w :: l.map Tr.enc))), some (.p (.lst ((l.flatMap Tr.atoms).map fun u => P.bl (g u)))), some (.p (.str w)), some (.p (.lst (l.map Tr.enc))), some (.r 0), some (.p (.int k)), x, y] [.lst ((l.map fun t => W.p (.bl (t.ev g))))])) →
          F (forL (.nm 6) (sSeq (sSet 7 (mCallV vLen (mCons (mCallF (sm_atoms_in 12) (mCons (mVar 6) mNil)) mNil))) (sSeq (sExpr (mBm "list" vAppend (mVar 4) (mCons (mCallF (sm_joined n) (mCons (mVar 6) (mCons (mSl (mVar 1) (oSome (mVar 5)) (oSome (mBin vAdd (mVar 5) (mVar 7)))) mNil))) mNil))) (sAug 5 vIadd (mVar 7)))) (l.map (W.p ∘ Tr.enc))
            [some (.p (.tup (.str w :: l.map Tr.enc))), some (.p (.lst ((l.flatMap Tr.atoms).map fun u => P.bl (g u)))), some (.p (.str w)), some (.p (.lst (l.map Tr.enc))), some (.r 0), some (.p (.int 0)), none, none] [.lst []]) := by
        intro w F hF
        refine forL_rule F (fun i σ st => ∃ x y, ∃ k : Int, k = (((l.take i).flatMap Tr.atoms).length : Nat) ∧ σ = [some (.p (.tup (.str w :: l.map Tr.enc))), some (.p (.lst ((l.flatMap Tr.atoms).map fun u => P.bl (g u)))), some (.p (.str w)), some (.p (.lst (l.map Tr.enc))), some (.r 0), some (.p (.int k)), x, y] ∧ st = [.lst ((l.take i).map fun t => W.p (.bl (t.ev g)))]) ⟨none, none, 0, rfl, rfl, rfl⟩ ?_ ?_
        · rintro i v σ st hv ⟨x, y, k, hk, rfl, rfl⟩
          rw [List.getElem?_map] at hv
          obtain ⟨t, ht, rfl⟩ := Option.map_eq_some_iff.mp hv
          have mt := List.mem_of_getElem? ht
          have hd := depths_le mt
          have sp := slice_part ht fun u => P.bl (g u)
          rw [← hk] at sp
          have hi := (List.getElem?_eq_some_iff.mp ht).1
          conv => arg 3; simp [atoms_in_ok 12 t (hg.2.2 t mt) (by omega) (by omega), sp, ih t (hg.2.2 t mt) (by omega) (by omega), show min i l.length < 1000000 by omega]
          refine ⟨_, _, _, ?_, rfl, ?_⟩
          · rw [hk, List.take_add_one, ht]; simp
          · rw [List.take_add_one, ht]; simp
        · rintro σ st ⟨x, y, k, hk, rfl, rfl⟩
          rw [List.length_map, List.take_of_length_le (Nat.le_refl _)]
          exact hF x y _
      cases b <;> simp [sm_joined, runF_e, opw, show l.length < 16384 by omega]
      · refine lp _ (fun r => Gv (runR (r.then _)) _) fun x y k => ?_
        simp
      · refine lp _ (fun r => Gv (runR (r.then _)) _) fun x y k => ?_
        simp

/-! ### texts: that there is one, not too long -/
theorem num_text {i : Int} (h : -9 ≤ i) (h2 : i ≤ 9) : (Str.ofString (toString i)).length ≤ 2 ∧ i.natAbs.log2 < 1920 := by
  refine ⟨?_, Nat.lt_trans (log2_lt (k := 4) (by omega) (by decide)) (by decide)⟩
  have : i = -9 ∨ i = -8 ∨ i = -7 ∨ i = -6 ∨ i = -5 ∨ i = -4 ∨ i = -3 ∨ i = -2 ∨ i = -1 ∨ i = 0 ∨ i = 1 ∨ i = 2 ∨ i = 3 ∨ i = 4 ∨ i = 5 ∨ i = 6 ∨ i = 7 ∨ i = 8 ∨ i = 9 := by omega
  rcases this with rfl | rfl | rfl | rfl | rfl | rfl | rfl | rfl | rfl | rfl | rfl | rfl | rfl | rfl | rfl | rfl | rfl | rfl | rfl <;> decide +kernel
def Gt (n : Nat) (r : Res W) : Prop := match r with
  | .ok (.p (.str s)) _ => s.length ≤ n
  | _ => False
@[simp] theorem Gt_ok (n : Nat) (s : Str) (st : List Cell) : Gt n (.ok (.p (.str s)) st) = (s.length ≤ n) := rfl
@[simp] theorem Gt_no (n : Nat) : Gt n .no = False := rfl
@[simp] theorem Gt_ite (n : Nat) {c : Prop} [Decidable c] (a b : Res W) : Gt n (if c then a else b) = if c then Gt n a else Gt n b := by split <;> rfl
theorem Gt.call {F : FM} {xs : List P} {n : Nat} (h : Gt n (F (xs.map W.p) [])) : ∃ s, s.length ≤ n ∧ ∀ st, callF F (xs.map W.p) st = .ok (.p (.str s)) st := by
  unfold Gt at h
  split at h
  · rename_i s _ e
    exact ⟨s, h, fun st => Pu.call (show Gv (F (xs.map W.p) []) (.str s) by rw [e]; rfl) st⟩
  · exact h.elim
theorem Gt.call1 {F : FM} {x : P} {n : Nat} (h : Gt n (F [.p x] [])) : ∃ s, s.length ≤ n ∧ ∀ st, callF F [.p x] st = .ok (.p (.str s)) st := Gt.call (xs := [x]) h
theorem sl1 : " ".length = 1 := by decide
theorem sl2 : "-".length = 1 := by decide
theorem sl3 : "+".length = 1 := by decide
theorem sl4 : "*".length = 1 := by decide
theorem sum_text_ok {a b c : Int} (h : F3 a b c) : ∃ s, s.length ≤ 24 ∧ ∀ st, callF sm_sum_text [.p (T3 a b c)] st = .ok (.p (.str s)) st := by
  refine Gt.call1 ?_
  obtain ⟨h1, h2, h3, _⟩ := h
  simp [sm_sum_text, runF_e, -forL_cons]
  refine forL_rule (fun r => Gt 24 (runR (r.then _))) (fun i σ st => ∃ s x y z u, σ = [some (.p (T3 a b c)), some (.p (.str s)), x, y, z, u] ∧ st = [] ∧ s.length ≤ 8 * i) ⟨_, _, _, _, _, rfl, rfl, by simp⟩ ?_ ?_
  · rintro i w σ st hw ⟨s, x, y, z, u, rfl, rfl, hl⟩
    have hi : i < 3 := (List.getElem?_eq_some_iff.mp hw).1
    have : ∃ f l, w = .p (.tup [.int f, .str (Str.ofString l)]) ∧ -3 ≤ f ∧ f ≤ 3 ∧ l.length = 1 := by
      have : i = 0 ∨ i = 1 ∨ i = 2 := by omega
      rcases this with rfl | rfl | rfl <;> simp at hw <;> subst hw
      · exact ⟨a, "a", rfl, h1.1, h1.2, by decide⟩
      · exact ⟨b, "b", rfl, h2.1, h2.2, by decide⟩
      · exact ⟨c, "c", rfl, h3.1, h3.2, by decide⟩
    obtain ⟨f, l, rfl, f1, f2, hl1⟩ := this
    by_cases hf : f = 0
    · conv => arg 3; simp [hf]
      exact ⟨_, _, _, _, _, rfl, rfl, by omega⟩
    · by_cases hn : f < 0
      · have nt := num_text (i := -f) (by omega) (by omega)
        simp at nt
        by_cases hs : s = Str.ofString "" <;> by_cases hx : -f = 1 <;> conv => arg 3; simp [hf, hn, hs, hx, hl1, nt.2, sl1, sl2, sl3, sl4]
        all_goals (repeat (rw [if_pos]; rotate_left; omega))
        all_goals exact ⟨_, _, _, _, _, rfl, rfl, by simp [hl1, sl1, sl2, sl3, sl4]; omega⟩
      · have nt := num_text (i := f) (by omega) (by omega)
        simp at nt
        by_cases hs : s = Str.ofString "" <;> by_cases hx : f = 1 <;> conv => arg 3; simp [hf, hn, hs, hx, hl1, nt.2, sl1, sl2, sl3, sl4]
        all_goals (repeat (rw [if_pos]; rotate_left; omega))
        all_goals exact ⟨_, _, _, _, _, rfl, rfl, by simp [hl1, sl1, sl2, sl3, sl4]; omega⟩
  · rintro σ st ⟨s, x, y, z, u, rfl, rfl, hl⟩
    simp at hl ⊢
    exact hl
def tb : Nat → Nat
  | 0 => 60
  | n + 1 => 4 * tb n + 40
theorem tb_mono : ∀ {n m : Nat}, n ≤ m → tb n ≤ tb m
  | n, 0, h => by obtain rfl : n = 0 := by omega
                  exact Nat.le_refl _
  | n, m + 1, h => by
    rcases Nat.lt_or_ge n (m + 1) with h1 | h1
    · have := tb_mono (n := n) (m := m) (by omega)
      show tb n ≤ 4 * tb m + 40
      omega
    · obtain rfl : n = m + 1 := by omega
      exact Nat.le_refl _
def Tr.word : Tr → Str
  | .at w _ _ _ _ => w.s
  | .rest .. => Str.ofString "rest"
  | .no _ => Str.ofString "not"
  | .op b _ => opw b
def Tr.tail : Tr → List P
  | .at _ a b c n => [T3 a b c, .int n]
  | .rest a b c d n => [T3 a b c, .int d, .int n]
  | .no t => [t.enc]
  | .op _ l => l.map Tr.enc
theorem Tr.enc_eq (t : Tr) : t.enc = .tup (.str t.word :: t.tail) := by
  cases t <;> simp [Tr.enc, Tr.word, Tr.tail, encs_map]
theorem Tr.ix0 (t : Tr) (st : List Cell) : vIx (.p t.enc) (.p (.int 0)) st = .ok (.p (.str t.word)) st := by
  rw [t.enc_eq]; simp
theorem join_eq (a : Str) (ys : List Str) : Txt.join a ys = Str.join a ys := PySem.StrLaws.glued_eq_join a ys
theorem jlen (a : Str) (ys : List Str) : (Str.join a ys).length ≤ (ys.map (·.length)).sum + ys.length * a.length := PySem.StrLaws.join_length_le a ys
theorem lk_not : tab_SIGNS_OF.lookup (Str.ofString "not") = none := by decide +kernel
theorem lk_and : tab_SIGNS_OF.lookup (Str.ofString "and") = none := by decide +kernel
theorem lk_or : tab_SIGNS_OF.lookup (Str.ofString "or") = none := by decide +kernel
theorem lk_rest : tab_SIGNS_OF.lookup (Str.ofString "rest") = none := by decide +kernel
theorem tree_text_ex : ∀ (n : Nat) (t : Tr), t.good → t.depth ≤ n → n ≤ 5 → ∀ m, t.depth ≤ m → ∃ s, s.length ≤ tb n ∧ ∀ st, callF (sm_tree_text m) [.p t.enc] st = .ok (.p (.str s)) st := by
  intro n
  induction n with
  | zero => intro t _ h; cases t <;> rw [Tr.depth] at h <;> omega
  | succ n ih =>
    intro t hg h h5 m hm
    have tbn : tb n ≤ 20000 := Nat.le_trans (tb_mono (show n ≤ 4 by omega)) (by decide)
    have tbs : 100 ≤ tb (n + 1) := Nat.le_trans (show 100 ≤ tb 1 by decide) (tb_mono (by omega))
    have tbe : tb (n + 1) = 4 * tb n + 40 := rfl
    obtain ⟨m, rfl⟩ : ∃ k, m = k + 1 := ⟨m - 1, by cases t <;> rw [Tr.depth] at hm <;> omega⟩
    refine Gt.call1 ?_
    cases t with
    | «at» w a b c k =>
      rw [Tr.good] at hg
      obtain ⟨s, hs, e⟩ := sum_text_ok hg.1
      have nt := num_text hg.2.1 hg.2.2
      simp at nt
      rw [Tr.enc]
      have : ∃ v : Str, tab_SIGNS_OF.lookup w.s = some v ∧ v.length ≤ 2 := by
        cases w
        · exact ⟨Str.ofString ">=", by decide +kernel, by decide +kernel⟩
        · exact ⟨Str.ofString "<=", by decide +kernel, by decide +kernel⟩
        · exact ⟨Str.ofString "=", by decide +kernel, by decide +kernel⟩
      obtain ⟨v, hv, hvl⟩ := this
      simp [sm_tree_text, runF_e, w.ne, hv, e, nt.2, sl1]
      omega
    | rest a b c d k =>
      rw [Tr.good] at hg
      obtain ⟨s, hs, e⟩ := sum_text_ok hg.1
      have nt := num_text (i := d) (by omega) (by omega)
      have nt2 := num_text (i := k) (by omega) (by omega)
      simp at nt nt2
      rw [Tr.enc]
      have l1 : " mod ".length = 5 := by decide
      have l2 : " = ".length = 3 := by decide
      simp [sm_tree_text, runF_e, e, nt.2, nt2.2, l1, l2]
      omega
    | no t =>
      rw [Tr.depth] at h hm
      rw [Tr.good] at hg
      obtain ⟨s, hs, e⟩ := ih t hg (by omega) (by omega) m (by omega)
      rw [Tr.enc]
      have l1 : "(".length = 1 := by decide
      have l2 : ")".length = 1 := by decide
      have l3 : "not ".length = 4 := by decide
      rw [t.enc_eq] at e ⊢
      by_cases hx : Str.ofString "and" = t.word ∨ Str.ofString "or" = t.word
      · simp [sm_tree_text, runF_e, lk_not, lcL_cons, lcL_nil, e, hx, l1, l2, l3]
        omega
      · simp [sm_tree_text, runF_e, lk_not, lcL_cons, lcL_nil, e, hx, l1, l2, l3]
        omega
    | op b l =>
      rw [Tr.depth] at h hm
      rw [Tr.enc, encs_map]
      rw [Tr.good, goods_all] at hg
      obtain ⟨f, hf⟩ : ∃ f : Tr → Str, ∀ t ∈ l, (f t).length ≤ tb n ∧ ∀ st, callF (sm_tree_text m) [.p t.enc] st = .ok (.p (.str (f t))) st := by
        classical
        refine ⟨fun t => if h : ∃ s : Str, s.length ≤ tb n ∧ ∀ st, callF (sm_tree_text m) [.p t.enc] st = .ok (.p (.str s)) st then h.choose else Str.empty, fun t mt => ?_⟩
        have e := ih t (hg.2.2 t mt) (by have := depths_le mt; omega) (by omega) m (by have := depths_le mt; omega)
        dsimp only
        rw [dif_pos e]
        exact e.choose_spec
      have l1 : "(".length = 1 := by decide
      have l2 : ")".length = 1 := by decide
      have l3 : (opw b).length ≤ 3 := by cases b <;> decide +kernel
      have hsum : ∀ (k : Tr → Str), (∀ t ∈ l, (k t).length ≤ tb n + 2) → (l.map fun t => (k t).length).sum ≤ l.length * (tb n + 2) := by
        intro k hk
        clear hf ih h hm hg
        induction l with
        | nil => simp
        | cons t l ih =>
          have := ih fun t mt => hk t (List.mem_cons_of_mem _ mt)
          have h2 := hk t List.mem_cons_self
          rw [List.map_cons, List.sum_cons, List.length_cons, Nat.succ_mul]
          omega
      have h4 : l.length * (tb n + 2) ≤ 4 * (tb n + 2) := Nat.mul_le_mul_right _ hg.2.1
      have h5 : l.length * 5 ≤ 20 := by omega
      have w1 : "or".length = 2 := by decide
      have w2 : "and".length = 3 := by decide
      cases b
      · simp [sm_tree_text, runF_e, opw, lk_or, show l.length < 16384 by omega, show l.length ≤ 1000000 by omega]
        have hk : ∀ t ∈ l, (if Str.ofString "or" = t.word then Str.ofString "(" ++ f t ++ Str.ofString ")" else f t).length ≤ tb n + 2 := fun t mt => by
          have := (hf t mt).1
          split <;> simp [l1, l2] <;> omega
        have hsm := hsum _ hk
        rw [lcL_mapF (fun t => .str (if Str.ofString "or" = t.word then Str.ofString "(" ++ f t ++ Str.ofString ")" else f t)) (fun t mt => by
          have q := hf t mt
          refine ⟨_, put_nm _ _, ?_⟩
          by_cases hw : Str.ofString "or" = t.word
          · simp [t.ix0, q.2, l1, l2, hw, show (f t).length ≤ 1000000 by omega]
            rw [if_pos (by omega), if_pos (by omega)]
            rfl
          · simp [t.ix0, q.2, l1, l2, hw])]
        have j := jlen (Str.empty ++ Str.ofString " " ++ Str.ofString "or" ++ Str.ofString " ") (l.map fun t => if Str.ofString "or" = t.word then Str.ofString "(" ++ f t ++ Str.ofString ")" else f t)
        rw [List.map_map] at j
        simp [join_eq, sl1, w1] at j ⊢
        simp only [Function.comp_def] at j ⊢
        omega
      · simp [sm_tree_text, runF_e, opw, lk_and, show l.length < 16384 by omega, show l.length ≤ 1000000 by omega]
        have hk : ∀ t ∈ l, (if Str.ofString "and" = t.word ∨ Str.ofString "or" = t.word then Str.ofString "(" ++ f t ++ Str.ofString ")" else f t).length ≤ tb n + 2 := fun t mt => by
          have := (hf t mt).1
          split <;> simp [l1, l2] <;> omega
        have hsm := hsum _ hk
        rw [lcL_mapF (fun t => .str (if Str.ofString "and" = t.word ∨ Str.ofString "or" = t.word then Str.ofString "(" ++ f t ++ Str.ofString ")" else f t)) (fun t mt => by
          have q := hf t mt
          refine ⟨_, put_nm _ _, ?_⟩
          by_cases hw : Str.ofString "and" = t.word ∨ Str.ofString "or" = t.word
          · simp [t.ix0, q.2, l1, l2, hw, show (f t).length ≤ 1000000 by omega]
            rw [if_pos (by omega), if_pos (by omega)]
            rfl
          · simp [t.ix0, q.2, l1, l2, hw])]
        have j := jlen (Str.empty ++ Str.ofString " " ++ Str.ofString "and" ++ Str.ofString " ") (l.map fun t => if Str.ofString "and" = t.word ∨ Str.ofString "or" = t.word then Str.ofString "(" ++ f t ++ Str.ofString ")" else f t)
        rw [List.map_map] at j
        simp [join_eq, sl1, w2] at j ⊢
        simp only [Function.comp_def] at j ⊢
        omega


/-! ### questions as objects -/
def ttext (t : Tr) : Str := match callF (sm_tree_text 12) [.p t.enc] [] with
  | .ok (.p (.str s)) _ => s
  | _ => Str.empty
theorem ttext_ok {t : Tr} (hg : t.good) (h : t.depth ≤ 5) (st : List Cell) : callF (sm_tree_text 12) [.p t.enc] st = .ok (.p (.str (ttext t))) st ∧ (ttext t).length ≤ 100000 := by
  obtain ⟨s, hs, e⟩ := tree_text_ex 5 t hg h (by omega) 12 (by omega)
  have : ttext t = s := by unfold ttext; rw [e]
  rw [this]
  exact ⟨e st, Nat.le_trans hs (by decide)⟩
/-- a good question: depth and atoms within the bounds -/
def Tr.fit (t : Tr) : Prop := t.good ∧ t.depth ≤ 4 ∧ t.atoms.length ≤ 3
def qob (t : Tr) : P := .obj 0 [t.enc, .lst (t.atoms.map Tr.enc), .str (ttext t)]
theorem question_make {t : Tr} (h : t.fit) (st : List Cell) : makeF 0 3 sm_Question_init [.p t.enc] st = .ok (.p (qob t)) st := by
  obtain ⟨hg, hd, ha⟩ := h
  refine makeF1 (m := [t.enc, .lst (t.atoms.map Tr.enc), .str (ttext t)]) ?_ rfl st
  simp [sm_Question_init, runF_e, is_tree_ok 12 t 1 hg (by omega) (by omega) (by omega), atoms_in_ok 12 t hg (by omega) hd, (ttext_ok hg (show t.depth ≤ 5 by omega) _).1]
  omega
theorem ans_bl {x y z : Int} (t : Tr) : ∃ b, P.bl (ans x y z t) = .bl b := ⟨_, rfl⟩
theorem answer_ok {t : Tr} (h : t.fit) {x y z : Int} (hx : Sm x) (hy : Sm y) (hz : Sm z) (hx0 : 0 ≤ x) (hy0 : 0 ≤ y) (hz0 : 0 ≤ z) (st : List Cell) : callF sm_Question_answer [.p (qob t), .p (T3 x y z)] st = .ok (.p (.bl (t.ev (ans x y z)))) st := by
  obtain ⟨hg, hd, ha⟩ := h
  refine Pu.call2 (Pu.of2 ?_) st
  simp [sm_Question_answer, runF_e, qob, need_counts_ok hx0 hy0 hz0, show t.atoms.length ≤ 1000000 by omega]
  rw [lcL_mapF (fun u => .bl (ans x y z u)) (fun u mu => by
    have := atoms_at 4 t hg hd u mu
    exact ⟨_, put_nm _ _, by simp [atom_answer_ok this.1 this.2 hx hy hz]⟩)]
  simp [joined_ok _ 12 t hg (by omega) hd]
theorem far_ok {t : Tr} (h : t.fit) {x y z : Int} (hx : Sm x) (hy : Sm y) (hz : Sm z) (hx0 : 0 ≤ x) (hy0 : 0 ≤ y) (hz0 : 0 ≤ z) (st : List Cell) : callF sm_Question_far [.p (qob t), .p (T3 x y z)] st = .ok (.p (.bl (t.ev (far x y z)))) st := by
  obtain ⟨hg, hd, ha⟩ := h
  refine Pu.call2 (Pu.of2 ?_) st
  simp [sm_Question_far, runF_e, qob, need_counts_ok hx0 hy0 hz0, show t.atoms.length ≤ 1000000 by omega]
  rw [lcL_mapF (fun u => .bl (far x y z u)) (fun u mu => by
    have := atoms_at 4 t hg hd u mu
    exact ⟨_, put_nm _ _, by simp [far_atom_ok this.1 this.2 hx hy hz]⟩)]
  simp [joined_ok _ 12 t hg (by omega) hd]
theorem invert_ok {t : Tr} (h : t.fit) (hd : t.depth < 4) (st : List Cell) : callF sm_Question_invert [.p (qob t)] st = .ok (.p (qob (.no t))) st := by
  refine Pu.call1 (Pu.of1 ?_) st
  have hf : (Tr.no t).fit := ⟨by rw [Tr.good]; exact h.1, by rw [Tr.depth]; omega, by rw [Tr.atoms]; exact h.2.2⟩
  have e := fun st => question_make hf st
  rw [Tr.enc] at e
  simp [sm_Question_invert, runF_e]
  rw [qob]
  simp [e]
end YS

/-! drawn trees -/
namespace YS
open PySem PySem.Spec PyProof.Rows L2 Y YZ
def sm_law_sum : FM := runF 2 4 (sSeq (sSet 2 (mLc (mSrc (mC (.str "abc"))) (.nm 3) [3] mYes (mBin vSub (mCallF sm_law_pull (mCons (mVar 0) (mCons (mBin vAdd (mBin vMulI (mC (.int 2)) (mVar 1)) (mC (.int 1))) mNil))) (mVar 1)) finC))
    (sSeq (sIf (mTst (mBin (vEqB false) (mCallF sm_law_pull (mCons (mVar 0) (mCons (mC (.int 2)) mNil))) (mC (.int 0)))) (sSetIx (mVar 2) (mCallF sm_law_pull (mCons (mVar 0) (mCons (mC (.int 3)) mNil))) (mC (.int 0))) sNx)
    (sSeq (sIf (mNotT (mTru (mCallV (vAnyG fun bs => bs.any id) (mCons (mVar 2) mNil)))) (sSetIx (mVar 2) (mCallF sm_law_pull (mCons (mVar 0) (mCons (mC (.int 3)) mNil))) (mC (.int 1))) sNx)
    (sRet (mCallV vTupOf (mCons (mVar 2) mNil))))))
def sm_law_atom : FM := runF 3 6 (sSeq (sSet 3 (mCallF sm_law_of (mCons (mVar 0) (mCons (mLst (mCons (mC (.str "at least")) (mCons (mC (.str "at least")) (mCons (mC (.str "at most")) (mCons (mC (.str "equal")) (mCons (mC (.str "rest")) mNil)))))) mNil))))
    (sSeq (sIf (mTst (mBin (vEqB false) (mVar 3) (mC (.str "rest")))) (sSeq (sSet 5 (mBin vAdd (mC (.int 2)) (mCallF sm_law_pull (mCons (mVar 0) (mCons (mC (.int 4)) mNil)))))
    (sRet (mTup (mCons (mC (.str "rest")) (mCons (mCallF sm_law_sum (mCons (mVar 0) (mCons (mVar 1) mNil))) (mCons (mVar 5) (mCons (mCallF sm_law_pull (mCons (mVar 0) (mCons (mVar 5) mNil))) mNil))))))) sNx)
    (sSeq (sSet 4 (mCallF sm_law_of (mCons (mVar 0) (mCons (mLst (mCons (mC (.int 0)) (mCons (mC (.int 0)) (mCons (mC (.int 1)) (mCons (mBin vSub (mCallF sm_law_pull (mCons (mVar 0) (mCons (mBin vAdd (mBin vMulI (mC (.int 2)) (mVar 2)) (mC (.int 1))) mNil))) (mVar 2)) mNil))))) mNil))))
    (sRet (mTup (mCons (mVar 3) (mCons (mCallF sm_law_sum (mCons (mVar 0) (mCons (mVar 1) mNil))) (mCons (mVar 4) mNil))))))))
def sm_law_depth : Nat → FM
  | 0 => fun _ _ => .no
  | n + 1 => runF 1 2 (sSeq (sIf (mTst (mBin (vInB false) (mBin vIx (mVar 0) (mC (.int 0))) (mLst (mCons (mC (.str "not")) (mCons (mC (.str "and")) (mCons (mC (.str "or")) mNil)))))) (sRet (mBin vAdd (mC (.int 1)) (mCallV vMaxS (mCons (mLc (mSrc (mSl (mVar 0) (oSome (mC (.int 1))) oNone)) (.nm 1) [1] mYes (mCallF (sm_law_depth n) (mCons (mVar 1) mNil)) finP) mNil)))) sNx)
    (sRet (mC (.int 1))))
def sm_law_tree : Nat → FM
  | 0 => fun _ _ => .no
  | n + 1 => runF 4 8 (sSeq (sIf (mOrT (mTst (mBin vLt (mVar 1) (mC (.int 2)))) (mTst (mBin (vEqB false) (mCallF sm_law_pull (mCons (mVar 0) (mCons (mC (.int 4)) mNil))) (mC (.int 0))))) (sSet 4 (mCallF sm_law_atom (mCons (mVar 0) (mCons (mVar 2) (mCons (mVar 3) mNil))))) (sSeq (sSet 5 (mBin vAdd (mC (.int 1)) (mCallF sm_law_pull (mCons (mVar 0) (mCons (mBin vSub (mVar 1) (mC (.int 1))) mNil)))))
    (sSeq (sSet 6 (mLc (mRng1 (mBin vAdd (mVar 5) (mC (.int 1)))) (.nm 7) [7] mYes (mIfE (mTst (mBin vGt (mVar 7) (mC (.int 0)))) (mCallF sm_law_atom (mCons (mVar 0) (mCons (mVar 2) (mCons (mVar 3) mNil)))) (mCallF (sm_law_tree n) (mCons (mVar 0) (mCons (mBin vSub (mVar 1) (mVar 5)) (mCons (mVar 2) (mCons (mVar 3) mNil)))))) finP))
    (sSet 4 (mCallV vTupOf (mCons (mBin vAdd (mLst (mCons (mCallF sm_law_of (mCons (mVar 0) (mCons (mLst (mCons (mC (.str "and")) (mCons (mC (.str "or")) mNil))) mNil))) mNil)) (mCallF sm_law_mixed (mCons (mVar 0) (mCons (mVar 6) mNil)))) mNil))))))
    (sRet (mIfE (mAndT (mTst (mBin (vEqB false) (mCallF sm_law_pull (mCons (mVar 0) (mCons (mC (.int 4)) mNil))) (mC (.int 0)))) (mTst (mBin vLt (mCallF (sm_law_depth 12) (mCons (mVar 4) mNil)) (mC (.int 3))))) (mTup (mCons (mC (.str "not")) (mCons (mVar 4) mNil))) (mVar 4))))

/-- three factors within m, not all zero -/
def FM3 (m a b c : Int) : Prop := (-m ≤ a ∧ a ≤ m) ∧ (-m ≤ b ∧ b ≤ m) ∧ (-m ≤ c ∧ c ≤ m) ∧ ¬ (a = 0 ∧ b = 0 ∧ c = 0)
theorem FM3.f3 {m a b c : Int} (h : FM3 m a b c) (hm : m ≤ 3) : F3 a b c := by
  obtain ⟨h1, h2, h3, h4⟩ := h
  exact ⟨by omega, by omega, by omega, h4⟩
theorem sum_bg {m : Int} (h0 : 1 ≤ m) (h1 : m ≤ 100) : Bg sm_law_sum [.int m] fun x => ∃ a b c, x = T3 a b c ∧ FM3 m a b c := by
  intro c0 hc0
  have mk : mulOk 2 m = true := mulOk_of (Sm.small (by decide)) (Sm.small (by omega))
  have pb := pull_bg (n := 2 * m + 1) (by omega) (small_log (by omega) (by omega))
  have p2 := pull_bg (n := 2) (by omega) (small_log (by omega) (by omega))
  have p3 := pull_bg (n := 3) (by omega) (small_log (by omega) (by omega))
  simp [sm_law_sum, runF_e, mk]
  obtain ⟨r1, c1, e1, hc1, k1, rfl, k10, k11⟩ := pb.call1 hc0 []
  simp [e1, mk]
  obtain ⟨r2, c2, e2, hc2, k2, rfl, k20, k21⟩ := pb.call1 hc1 []
  simp [e2, mk]
  obtain ⟨r3, c3, e3, hc3, k3, rfl, k30, k31⟩ := pb.call1 hc2 []
  conv => arg 2; arg 1; simp [e3, -sSeq_e]
  obtain ⟨r4, c4, e4, hc4, k4, rfl, k40, k41⟩ := p2.call1 hc3 [.lst [.p (.int (k1 - m)), .p (.int (k2 - m)), .p (.int (k3 - m))]]
  have fin : ∀ (a b d : Int) (c : Cell), GB c → (-m ≤ a ∧ a ≤ m) → (-m ≤ b ∧ b ≤ m) → (-m ≤ d ∧ d ≤ m) → Gb (fun x => ∃ a b c, x = T3 a b c ∧ FM3 m a b c) (runR (sSeq (sIf (mNotT (mTru (mCallV (vAnyG fun bs => bs.any id) (mCons (mVar 2) mNil)))) (sSetIx (mVar 2) (mCallF sm_law_pull (mCons (mVar 0) (mCons (mC (.int 3)) mNil))) (mC (.int 1))) sNx)
    (sRet (mCallV vTupOf (mCons (mVar 2) mNil))) [some (.r 0), some (.p (.int m)), some (.r 1), none] [c, .lst [.p (.int a), .p (.int b), .p (.int d)]])) := by
    intro a b d c hc ha hb hd
    by_cases hz : a = 0 ∧ b = 0 ∧ d = 0
    · obtain ⟨rfl, rfl, rfl⟩ := hz
      obtain ⟨r, c', e, hc', k, rfl, k0, k1⟩ := p3.call1 hc [.lst [.p (.int 0), .p (.int 0), .p (.int 0)]]
      have : k = 0 ∨ k = 1 ∨ k = 2 := by omega
      rcases this with rfl | rfl | rfl
      all_goals (conv => arg 2; simp [e])
      all_goals (rw [Gb_ok]; exact ⟨hc', _, _, _, rfl, by omega, by omega, by omega, by omega⟩)
    · conv => arg 2; simp
      rw [if_neg hz, Gb_ok]
      exact ⟨hc, _, _, _, rfl, by omega, by omega, by omega, by omega⟩
  by_cases h4 : k4 = 0
  · obtain ⟨r5, c5, e5, hc5, k5, rfl, k50, k51⟩ := p3.call1 hc4 [.lst [.p (.int (k1 - m)), .p (.int (k2 - m)), .p (.int (k3 - m))]]
    have : k5 = 0 ∨ k5 = 1 ∨ k5 = 2 := by omega
    rcases this with rfl | rfl | rfl
    · conv => arg 2; arg 1; rw [sSeq_e]; arg 1; simp [e4, h4, e5]
      rw [SR.then_nx]
      exact fin 0 (k2 - m) (k3 - m) c5 hc5 (by omega) (by omega) (by omega)
    · conv => arg 2; arg 1; rw [sSeq_e]; arg 1; simp [e4, h4, e5]
      rw [SR.then_nx]
      exact fin (k1 - m) 0 (k3 - m) c5 hc5 (by omega) (by omega) (by omega)
    · conv => arg 2; arg 1; rw [sSeq_e]; arg 1; simp [e4, h4, e5]
      rw [SR.then_nx]
      exact fin (k1 - m) (k2 - m) 0 c5 hc5 (by omega) (by omega) (by omega)
  · conv => arg 2; arg 1; rw [sSeq_e]; arg 1; simp [e4, h4]
    rw [SR.then_nx]
    exact fin (k1 - m) (k2 - m) (k3 - m) c4 hc4 (by omega) (by omega) (by omega)
mutual
def Tr.ok (m b : Int) : Tr → Prop
  | .at _ x y z n => FM3 m x y z ∧ -b ≤ n ∧ n ≤ b
  | .rest x y z d n => FM3 m x y z ∧ 2 ≤ d ∧ d ≤ 5 ∧ 0 ≤ n ∧ n < d
  | .no t => t.ok m b
  | .op _ l => 2 ≤ l.length ∧ l.length ≤ 4 ∧ Tr.oks m b l
def Tr.oks (m b : Int) : List Tr → Prop
  | [] => True
  | t :: l => t.ok m b ∧ Tr.oks m b l
end
theorem oks_all {m b : Int} : ∀ {l : List Tr}, Tr.oks m b l ↔ ∀ t ∈ l, t.ok m b
  | [] => by simp [Tr.oks]
  | t :: l => by rw [Tr.oks, oks_all]; simp
theorem ok_good {m b : Int} (hm : m ≤ 3) (hb : b ≤ 9) : ∀ (n : Nat) (t : Tr), t.depth ≤ n → t.ok m b → t.good := by
  intro n
  induction n with
  | zero => intro t h; cases t <;> rw [Tr.depth] at h <;> omega
  | succ n ih =>
    intro t h ho
    cases t with
    | «at» w x y z k => rw [Tr.ok] at ho; rw [Tr.good]; exact ⟨ho.1.f3 hm, by omega, by omega⟩
    | rest x y z d k => rw [Tr.ok] at ho; rw [Tr.good]; exact ⟨ho.1.f3 hm, ho.2⟩
    | no t => rw [Tr.ok] at ho; rw [Tr.depth] at h; rw [Tr.good]; exact ih t (by omega) ho
    | op c l =>
      rw [Tr.ok, oks_all] at ho; rw [Tr.depth] at h; rw [Tr.good, goods_all]
      exact ⟨ho.1, ho.2.1, fun t mt => ih t (by have := depths_le mt; omega) (ho.2.2 t mt)⟩
theorem atom_bg {m b : Int} (h0 : 1 ≤ m) (h1 : m ≤ 100) (b0 : 1 ≤ b) (b1 : b ≤ 100) : Bg sm_law_atom [.int m, .int b] fun x => ∃ t : Tr, x = t.enc ∧ isAt t ∧ t.ok m b := by
  intro c0 hc0
  have mk : mulOk 2 b = true := mulOk_of (Sm.small (by decide)) (Sm.small (by omega))
  have ofw := of_bg (l := [.str (Str.ofString "at least"), .str (Str.ofString "at least"), .str (Str.ofString "at most"), .str (Str.ofString "equal"), .str (Str.ofString "rest")]) (by simp) (by simp)
  have pb := pull_bg (n := 2 * b + 1) (by omega) (small_log (by omega) (by omega))
  have p4 := pull_bg (n := 4) (by omega) (small_log (by omega) (by omega))
  have sb := sum_bg h0 h1
  obtain ⟨r1, c1, e1, hc1, hr1⟩ := ofw.call1 hc0 []
  have other : ∀ w : Wd, r1 = .str w.s → Gb (fun x => ∃ t : Tr, x = t.enc ∧ isAt t ∧ t.ok m b) (sm_law_atom [.r 0, .p (.int m), .p (.int b)] [c0]) := by
    intro w hw
    subst hw
    obtain ⟨r2, c2, e2, hc2, k, rfl, k0, k1⟩ := pb.call1 hc1 []
    have ofn := of_bg (l := [.int 0, .int 0, .int 1, .int (k - b)]) (by simp) (by simp)
    obtain ⟨r3, c3, e3, hc3, hr3⟩ := ofn.call1 hc2 []
    obtain ⟨r4, c4, e4, hc4, x, y, z, rfl, hs⟩ := sb.call1 hc3 []
    simp at hr3
    have nn : ∃ n : Int, r3 = .int n ∧ -b ≤ n ∧ n ≤ b := by
      rcases hr3 with rfl | rfl | rfl
      · exact ⟨0, rfl, by omega, by omega⟩
      · exact ⟨1, rfl, by omega, by omega⟩
      · exact ⟨k - b, rfl, by omega, by omega⟩
    obtain ⟨n, rfl, hn⟩ := nn
    conv => arg 2; simp [sm_law_atom, runF_e, e1, w.ne, mk, e2, e3, e4]
    rw [Gb_ok]
    refine ⟨hc4, .at w x y z n, ?_, trivial, ?_⟩
    · rw [Tr.enc]
    · rw [Tr.ok]; exact ⟨hs, hn⟩
  simp at hr1
  rcases hr1 with rfl | rfl | rfl | rfl
  · exact other .ge rfl
  · exact other .le rfl
  · exact other .eq rfl
  · obtain ⟨r2, c2, e2, hc2, k, rfl, k0, k1⟩ := p4.call1 hc1 []
    obtain ⟨r3, c3, e3, hc3, x, y, z, rfl, hs⟩ := sb.call1 hc2 []
    have pd := pull_bg (n := 2 + k) (by omega) (small_log (by omega) (by omega))
    obtain ⟨r4, c4, e4, hc4, n, rfl, n0, n1⟩ := pd.call1 hc3 []
    show Gb _ (sm_law_atom [.r 0, .p (.int m), .p (.int b)] [c0])
    conv => arg 2; simp [sm_law_atom, runF_e, e1, e2, e3, e4]
    rw [Gb_ok]
    refine ⟨hc4, .rest x y z (2 + k) n, ?_, trivial, ?_⟩
    · rw [Tr.enc]
    · rw [Tr.ok]; exact ⟨hs, by omega, by omega, n0, n1⟩
/-- the law's own depth -/
theorem maxI_map : ∀ (l : List Tr), l ≠ [] → maxI (l.map fun t => ((t.depth : Nat) : Int)) = ((Tr.depths l : Nat) : Int)
  | [], h => absurd rfl h
  | [t], _ => by simp [maxI, Tr.depths]
  | t :: u :: l, _ => by
    have := maxI_map (u :: l) (by simp)
    rw [List.map_cons] at this
    have e : Tr.depths (t :: u :: l) = max t.depth (Tr.depths (u :: l)) := by rw [Tr.depths]
    rw [List.map_cons, List.map_cons, maxI, this, e]
    · omega
    · simp
theorem depth_ok : ∀ (n : Nat) (t : Tr), t.good → t.depth ≤ n → ∀ st, callF (sm_law_depth n) [.p t.enc] st = .ok (.p (.int ((t.depth : Nat) : Int))) st := by
  intro n
  induction n with
  | zero => intro t _ h; cases t <;> rw [Tr.depth] at h <;> omega
  | succ n ih =>
    intro t hg h st
    refine Pu.call1 (Pu.of1 ?_) st
    cases t with
    | «at» w a b c k => simp [sm_law_depth, runF_e, Tr.enc, Tr.depth, w.ne]
    | rest a b c d k => simp [sm_law_depth, runF_e, Tr.enc, Tr.depth]
    | no t =>
      rw [Tr.depth] at h
      rw [Tr.good] at hg
      simp [sm_law_depth, runF_e, Tr.enc, Tr.depth, ih t hg (by omega), maxI]
      omega
    | op b l =>
      rw [Tr.depth] at h
      rw [Tr.enc, encs_map, Tr.depth]
      rw [Tr.good, goods_all] at hg
      have hne : l ≠ [] := fun e => by subst e; simp at hg
      cases b <;> simp [sm_law_depth, runF_e, opw, show l.length ≤ 1000000 by omega]
      all_goals rw [lcL_mapF (fun t => .int ((t.depth : Nat) : Int)) (fun t mt => ⟨_, put_nm _ _, by simp [ih t (hg.2.2 t mt) (by have := depths_le mt; omega)]⟩)]
      all_goals simp [maxI_map l hne, show 0 < l.length by omega]
      all_goals omega
theorem perm_pre {α β : Type} {f : α → β} : ∀ {m k : List β}, m.Perm k → ∀ l : List α, k = l.map f → ∃ l' : List α, m = l'.map f ∧ l'.Perm l := by
  intro m k h
  induction h with
  | nil => intro l e; cases l with
    | nil => exact ⟨[], rfl, .nil⟩
    | cons a l => cases e
  | cons x h ih => intro l e; cases l with
    | nil => cases e
    | cons a l =>
      rw [List.map_cons] at e
      obtain ⟨e1, e2⟩ := List.cons.inj e
      subst e1
      obtain ⟨l', rfl, p⟩ := ih l e2
      exact ⟨a :: l', rfl, p.cons a⟩
  | swap x y k => intro l e; cases l with
    | nil => cases e
    | cons a l => cases l with
      | nil => cases e
      | cons b l =>
        rw [List.map_cons, List.map_cons] at e
        obtain ⟨e1, e2⟩ := List.cons.inj e
        obtain ⟨e3, e4⟩ := List.cons.inj e2
        subst e1 e3 e4
        exact ⟨b :: a :: l, rfl, .swap a b l⟩
  | trans h1 h2 ih1 ih2 => intro l e; obtain ⟨l2, e2, p2⟩ := ih2 l e; obtain ⟨l1, e1, p1⟩ := ih1 l2 e2; exact ⟨l1, e1, p1.trans p2⟩
/-- a drawn tree -/
def TreeR (m b a : Int) (x : P) : Prop := ∃ t : Tr, x = t.enc ∧ t.ok m b ∧ ((t.depth : Nat) : Int) ≤ a + 1 ∧ ((t.atoms.length : Nat) : Int) ≤ a
theorem isAt.one {t : Tr} (h : isAt t) : t.depth = 1 ∧ t.atoms.length = 1 := by
  cases t with
  | «at» w a b c n => simp [Tr.depth, Tr.atoms]
  | rest a b c d n => simp [Tr.depth, Tr.atoms]
  | no t => exact h.elim
  | op b l => exact h.elim
theorem depths_of {l : List Tr} {k : Nat} (h : ∀ t ∈ l, t.depth ≤ k) : Tr.depths l ≤ k := by
  induction l with
  | nil => rw [Tr.depths]; omega
  | cons t l ih =>
    rw [Tr.depths]
    have := h t List.mem_cons_self
    have := ih fun u mu => h u (List.mem_cons_of_mem _ mu)
    omega
theorem atoms_perm {l k : List Tr} (p : l.Perm k) : (Tr.atomss l).length = (Tr.atomss k).length := by
  rw [atomss_flat, atomss_flat]
  induction p with
  | nil => rfl
  | cons x h ih => simp at ih ⊢; omega
  | swap x y k => simp; omega
  | trans h1 h2 ih1 ih2 => exact ih1.trans ih2
theorem tree_bg {m b : Int} (h0 : 1 ≤ m) (h1 : m ≤ 3) (b0 : 1 ≤ b) (b1 : b ≤ 9) : ∀ (n : Nat) (a : Int), 1 ≤ a → a ≤ 3 → a ≤ n → Bg (sm_law_tree n) [.int a, .int m, .int b] (TreeR m b a) := by
  intro n
  induction n with
  | zero => intro a _ _ h; omega
  | succ n ih =>
    intro a ha0 ha1 han c0 hc0
    have ab := atom_bg h0 (show m ≤ 100 by omega) b0 (show b ≤ 100 by omega)
    have p4 := pull_bg (n := 4) (by omega) (small_log (by omega) (by omega))
    have fin : ∀ (t : Tr) (c : Cell) (x5 x6 x7 : Option W), GB c → t.ok m b → ((t.depth : Nat) : Int) ≤ a + 1 → (a = 1 → t.depth ≤ 1) → ((t.atoms.length : Nat) : Int) ≤ a →
        Gb (TreeR m b a) (runR (sRet (mIfE (mAndT (mTst (mBin (vEqB false) (mCallF sm_law_pull (mCons (mVar 0) (mCons (mC (.int 4)) mNil))) (mC (.int 0)))) (mTst (mBin vLt (mCallF (sm_law_depth 12) (mCons (mVar 4) mNil)) (mC (.int 3))))) (mTup (mCons (mC (.str "not")) (mCons (mVar 4) mNil))) (mVar 4))
          [some (.r 0), some (.p (.int a)), some (.p (.int m)), some (.p (.int b)), some (.p t.enc), x5, x6, x7] [c])) := by
      intro t c x5 x6 x7 hc ho hd hd1 hat
      have hg := ok_good h1 b1 t.depth t (Nat.le_refl _) ho
      obtain ⟨r, c', e, hc', k, rfl, k0, k1⟩ := p4.call1 hc []
      by_cases hk : k = 0 ∧ t.depth < 3
      · conv => arg 2; simp [e, hk.1, depth_ok 12 t hg (by omega), show ((t.depth : Nat) : Int) < 3 by omega]
        rw [Gb_ok]
        refine ⟨hc', .no t, ?_, ?_, ?_, ?_⟩
        · rw [Tr.enc]
        · rw [Tr.ok]; exact ho
        · rw [Tr.depth]; omega
        · rw [Tr.atoms]; exact hat
      · have he : Gb (TreeR m b a) (.ok (.p t.enc) [c']) := ⟨hc', t, rfl, ho, hd, hat⟩
        by_cases hk0 : k = 0
        · have : ¬ ((t.depth : Nat) : Int) < 3 := fun h => hk ⟨hk0, by omega⟩
          conv => arg 2; simp [e, hk0, depth_ok 12 t hg (by omega), this]
          exact he
        · conv => arg 2; simp [e, hk0]
          exact he
    have atom : ∀ c, GB c → Gb (TreeR m b a) (runR ((sSet 4 (mCallF sm_law_atom (mCons (mVar 0) (mCons (mVar 2) (mCons (mVar 3) mNil)))) [some (.r 0), some (.p (.int a)), some (.p (.int m)), some (.p (.int b)), none, none, none, none] [c]).then
        (sRet (mIfE (mAndT (mTst (mBin (vEqB false) (mCallF sm_law_pull (mCons (mVar 0) (mCons (mC (.int 4)) mNil))) (mC (.int 0)))) (mTst (mBin vLt (mCallF (sm_law_depth 12) (mCons (mVar 4) mNil)) (mC (.int 3))))) (mTup (mCons (mC (.str "not")) (mCons (mVar 4) mNil))) (mVar 4))))) := by
      intro c hc
      obtain ⟨r, c1, e, hc1, t, rfl, ht, ho⟩ := ab.call2 hc []
      conv => arg 2; arg 1; arg 1; simp [e]
      rw [SR.then_nx]
      have := ht.one
      exact fin t c1 none none none hc1 ho (by omega) (by omega) (by omega)
    show Gb _ (sm_law_tree (n + 1) [.r 0, .p (.int a), .p (.int m), .p (.int b)] [c0])
    conv => arg 2; simp [sm_law_tree, runF_e, -sSeq_e]
    by_cases h2 : a < 2
    · conv => arg 2; arg 1; rw [sSeq_e]; arg 1; simp [h2, -sSet_e]
      exact atom c0 hc0
    · obtain ⟨r1, c1, e1, hc1, k1, rfl, k10, k11⟩ := p4.call1 hc0 []
      by_cases hk : k1 = 0
      · conv => arg 2; arg 1; rw [sSeq_e]; arg 1; simp [h2, e1, hk, -sSet_e]
        exact atom c1 hc1
      · have pa := pull_bg (n := a - 1) (by omega) (small_log (by omega) (by omega))
        obtain ⟨r2, c2, e2, hc2, k2, rfl, k20, k21⟩ := pa.call1 hc1 []
        have it := ih (a - (1 + k2)) (by omega) (by omega) (by omega)
        obtain ⟨r3, c3, e3, hc3, t0, rfl, t0o, t0d, t0a⟩ := it.call3 hc2 []
        obtain ⟨r4, c4, e4, hc4, t1, rfl, t1t, t1o⟩ := ab.call2 hc3 []
        have t1one := t1t.one
        have done : ∀ (l : List Tr) (c : Cell) (x : Option W), GB c → 2 ≤ l.length → l.length ≤ 3 → (∀ t ∈ l, t.ok m b) → (∀ t ∈ l, ((t.depth : Nat) : Int) ≤ a) → (((Tr.atomss l).length : Nat) : Int) ≤ a →
            Gb (TreeR m b a) (runR ((sSet 4 (mCallV vTupOf (mCons (mBin vAdd (mLst (mCons (mCallF sm_law_of (mCons (mVar 0) (mCons (mLst (mCons (mC (.str "and")) (mCons (mC (.str "or")) mNil))) mNil))) mNil)) (mCallF sm_law_mixed (mCons (mVar 0) (mCons (mVar 6) mNil)))) mNil)) [some (.r 0), some (.p (.int a)), some (.p (.int m)), some (.p (.int b)), none, some (.p (.int (1 + k2))), some (.p (.lst (l.map Tr.enc))), x] [c]).then
              (sRet (mIfE (mAndT (mTst (mBin (vEqB false) (mCallF sm_law_pull (mCons (mVar 0) (mCons (mC (.int 4)) mNil))) (mC (.int 0)))) (mTst (mBin vLt (mCallF (sm_law_depth 12) (mCons (mVar 4) mNil)) (mC (.int 3))))) (mTup (mCons (mC (.str "not")) (mCons (mVar 4) mNil))) (mVar 4))))) := by
          intro l c x hc hl2 hl3 hok hdep hats
          obtain ⟨r5, c5, e5, hc5, hr5⟩ := (of_bg (l := [.str (Str.ofString "and"), .str (Str.ofString "or")]) (by simp) (by simp)).call1 hc []
          obtain ⟨r6, c6, e6, hc6, mm, rfl, hp⟩ := (mixed_bg (l := l.map Tr.enc) (by rw [List.length_map]; omega)).call1 hc5 []
          obtain ⟨l', rfl, hp'⟩ := perm_pre hp l rfl
          have hw : ∃ w : Bool, r5 = .str (opw w) := by
            simp at hr5
            rcases hr5 with rfl | rfl
            · exact ⟨true, rfl⟩
            · exact ⟨false, rfl⟩
          obtain ⟨w, rfl⟩ := hw
          have hl' := hp'.length_eq
          conv => arg 2; arg 1; arg 1; simp [e5, e6, show 1 + l'.length ≤ 1000000 by omega]
          rw [SR.then_nx]
          have := fin (.op w l') c6 (some (.p (.int (1 + k2)))) (some (.p (.lst (l.map Tr.enc)))) x hc6 ?_ ?_ ?_ ?_
          · rw [Tr.enc, encs_map] at this; exact this
          · rw [Tr.ok, oks_all]; exact ⟨by omega, by omega, fun t mt => hok t (hp'.mem_iff.mp mt)⟩
          · rw [Tr.depth]
            have : Tr.depths l' ≤ a.toNat := depths_of fun t mt => by have := hdep t (hp'.mem_iff.mp mt); omega
            omega
          · intro h; omega
          · rw [Tr.atoms, atoms_perm hp']; exact hats
        have ksm : k2 = 0 ∨ k2 = 1 := by omega
        rcases ksm with rfl | rfl
        · rw [show (1 : Int) + 0 = 1 from rfl] at e3
          have r2 : rngL 0 2 = [.p (.int 0), .p (.int 1)] := rfl
          conv => arg 2; arg 1; rw [sSeq_e]; arg 1; simp [h2, e1, hk, -sSet_e, -sSeq_e]
          conv => arg 2; arg 1; arg 1; rw [sSeq_e]; arg 1; simp [e2]
          rw [SR.then_nx]
          conv => arg 2; arg 1; arg 1; rw [sSeq_e]; arg 1; simp [r2, e3, e4]
          rw [SR.then_nx]
          exact done [t0, t1] c4 none hc4 (by simp) (by simp) (by simp [t0o, t1o]) (by simp; omega) (by simp [Tr.atomss]; omega)
        · rw [show (1 : Int) + 1 = 2 from rfl] at e3
          have r3 : rngL 0 3 = [.p (.int 0), .p (.int 1), .p (.int 2)] := rfl
          obtain ⟨r5, c5, e5, hc5, t2, rfl, t2t, t2o⟩ := ab.call2 hc4 []
          have t2one := t2t.one
          conv => arg 2; arg 1; rw [sSeq_e]; arg 1; simp [h2, e1, hk, -sSet_e, -sSeq_e]
          conv => arg 2; arg 1; arg 1; rw [sSeq_e]; arg 1; simp [e2]
          rw [SR.then_nx]
          conv => arg 2; arg 1; arg 1; rw [sSeq_e]; arg 1; simp [r3, e3, e4, e5]
          rw [SR.then_nx]
          exact done [t0, t1, t2] c5 none hc5 (by simp) (by simp) (by simp [t0o, t1o, t2o]) (by simp; omega) (by simp [Tr.atomss]; omega)
end YS

/-! the law's own truth of trees -/
namespace YS
open PySem PySem.Spec PyProof.Rows L2 Y YZ
def sm_law_value : FM := runF 2 4 (sRet (mCallV vSumS (mCons (mLc (mZipA (mVar 0) (mVar 1)) (.tp [(.nm 2), (.nm 3)]) [2, 3] mYes (mBin vMulI (mVar 2) (mVar 3)) finP) mNil)))
def sm_law_holds : FM := runF 2 3 (sSeq (sSet 2 (mCallF sm_law_value (mCons (mBin vIx (mVar 0) (mC (.int 1))) (mCons (mVar 1) mNil))))
    (sSeq (sIf (mTst (mBin (vEqB false) (mBin vIx (mVar 0) (mC (.int 0))) (mC (.str "rest")))) (sRet (mBin (vEqB false) (mBin vMod (mCallV vInt (mCons (mVar 2) mNil)) (mBin vIx (mVar 0) (mC (.int 2)))) (mBin vIx (mVar 0) (mC (.int 3))))) sNx)
    (sSeq (sIf (mTst (mBin (vEqB false) (mBin vIx (mVar 0) (mC (.int 0))) (mC (.str "equal")))) (sRet (mBin (vEqB false) (mVar 2) (mBin vIx (mVar 0) (mC (.int 2))))) sNx)
    (sRet (mIfE (mTst (mBin (vEqB false) (mBin vIx (mVar 0) (mC (.int 0))) (mC (.str "at least")))) (mBin vGe (mVar 2) (mBin vIx (mVar 0) (mC (.int 2)))) (mBin vLe (mVar 2) (mBin vIx (mVar 0) (mC (.int 2)))))))))
def sm_law_truth : Nat → FM
  | 0 => fun _ _ => .no
  | n + 1 => runF 2 3 (sSeq (sIf (mTst (mBin (vEqB false) (mBin vIx (mVar 0) (mC (.int 0))) (mC (.str "not")))) (sRet (mNotV (mCallF (sm_law_truth n) (mCons (mBin vIx (mVar 0) (mC (.int 1))) (mCons (mVar 1) mNil))))) sNx)
    (sSeq (sIf (mTst (mBin (vEqB false) (mBin vIx (mVar 0) (mC (.int 0))) (mC (.str "and")))) (sRet (mCallV (vAnyG fun bs => bs.all id) (mCons (mLc (mSrc (mSl (mVar 0) (oSome (mC (.int 1))) oNone)) (.nm 2) [2] mYes (mCallF (sm_law_truth n) (mCons (mVar 2) (mCons (mVar 1) mNil))) finP) mNil))) sNx)
    (sSeq (sIf (mTst (mBin (vEqB false) (mBin vIx (mVar 0) (mC (.int 0))) (mC (.str "or")))) (sRet (mCallV (vAnyG fun bs => bs.any id) (mCons (mLc (mSrc (mSl (mVar 0) (oSome (mC (.int 1))) oNone)) (.nm 2) [2] mYes (mCallF (sm_law_truth n) (mCons (mVar 2) (mCons (mVar 1) mNil))) finP) mNil))) sNx)
    (sRet (mCallF sm_law_holds (mCons (mVar 0) (mCons (mVar 1) mNil)))))))
def sm_law_flags : FM := runF 1 2 (sRet (mCallV vTupOf (mCons (mLc (mSrc (mVar 0)) (.nm 1) [1] mYes (mCallV vInt (mCons (mBin vGt (mVar 1) (mC (.int 0))) mNil)) finP) mNil)))

theorem law_value3 {a b c x y z : Int} (h1 : mulOk a x = true) (h2 : mulOk b y = true) (h3 : mulOk c z = true) (st : List Cell) : callF sm_law_value [.p (T3 a b c), .p (T3 x y z)] st = .ok (.p (.int (wt a b c x y z))) st := by
  refine Pu.call2 (Pu.of2 ?_) st
  simp [sm_law_value, runF_e, h1, h2, h3, wt]
theorem law_holds_ok {t : Tr} (ht : isAt t) (hg : t.good) {x y z : Int} (hx : Sm x) (hy : Sm y) (hz : Sm z) (st : List Cell) : callF sm_law_holds [.p t.enc, .p (T3 x y z)] st = .ok (.p (.bl (ans x y z t))) st := by
  refine Pu.call2 (Pu.of2 ?_) st
  cases t with
  | «at» w a b c n =>
    rw [Tr.good] at hg
    obtain ⟨m1, m2, m3⟩ := F3.ok hg.1 hx hy hz
    cases w <;> simp [sm_law_holds, runF_e, Tr.enc, Wd.s, law_value3 m1 m2 m3, ans] <;> rfl
  | rest a b c d n =>
    rw [Tr.good] at hg
    obtain ⟨m1, m2, m3⟩ := F3.ok hg.1 hx hy hz
    simp [sm_law_holds, runF_e, Tr.enc, law_value3 m1 m2 m3, ans, show 0 < d by omega]
  | no t => exact ht.elim
  | op b l => exact ht.elim
theorem law_truth_ok : ∀ (n : Nat) (t : Tr), t.good → t.depth ≤ n → ∀ {x y z : Int}, Sm x → Sm y → Sm z → ∀ st, callF (sm_law_truth n) [.p t.enc, .p (T3 x y z)] st = .ok (.p (.bl (t.ev (ans x y z)))) st := by
  intro n
  induction n with
  | zero => intro t _ h; cases t <;> rw [Tr.depth] at h <;> omega
  | succ n ih =>
    intro t hg h x y z hx hy hz st
    refine Pu.call2 (Pu.of2 ?_) st
    cases t with
    | «at» w a b c k =>
      have e := fun st => law_holds_ok (t := .at w a b c k) trivial hg hx hy hz st
      rw [Tr.enc] at e
      simp [sm_law_truth, runF_e, Tr.enc, Tr.ev, w.ne, e]
    | rest a b c d k =>
      have e := fun st => law_holds_ok (t := .rest a b c d k) trivial hg hx hy hz st
      rw [Tr.enc] at e
      simp [sm_law_truth, runF_e, Tr.enc, Tr.ev, e]
    | no t =>
      rw [Tr.depth] at h
      rw [Tr.good] at hg
      simp [sm_law_truth, runF_e, Tr.enc, Tr.ev, ih t hg (by omega) hx hy hz]
    | op b l =>
      rw [Tr.depth] at h
      rw [Tr.enc, encs_map, Tr.ev, evs_map]
      rw [Tr.good, goods_all] at hg
      cases b <;> simp [sm_law_truth, runF_e, opw, show l.length ≤ 1000000 by omega]
      all_goals rw [lcL_mapF (fun t => .bl (t.ev (ans x y z))) (fun t mt => ⟨_, put_nm _ _, by simp [ih t (hg.2.2 t mt) (by have := depths_le mt; omega) hx hy hz]⟩)]
      all_goals simp
/-- 1 for what is above 0 -/
def fl (x : Int) : Int := if 0 < x then 1 else 0
theorem law_flags3 (x y z : Int) (st : List Cell) : callF sm_law_flags [.p (T3 x y z)] st = .ok (.p (T3 (fl x) (fl y) (fl z))) st := by
  refine Pu.call1 (Pu.of1 ?_) st
  simp [sm_law_flags, runF_e, fl]
end YS

/-! same -/
namespace YS
open PySem PySem.Spec PyProof.Rows L2 Y YZ
def sm_law_same : Nat → FM
  | 0 => fun _ _ => .no
  | n + 1 => runF 2 4 (sSeq (sIf (mOrT (mTru (mIsi "list" (mVar 1))) (mTru (mIsi "tuple" (mVar 1)))) (sSeq (sIf (mOrT (mTst (mBin (vEqB true) (mIsi "list" (mVar 0)) (mIsi "list" (mVar 1)))) (mTst (mBin (vEqB true) (mIsi "tuple" (mVar 0)) (mIsi "tuple" (mVar 1))))) (sRet (mC (.bl false))) sNx)
    (sRet (mAndV (mBin (vEqB false) (mCallV vLen (mCons (mVar 0) mNil)) (mCallV vLen (mCons (mVar 1) mNil))) (mCallV (vAnyG fun bs => bs.all id) (mCons (mLc (mZipA (mVar 0) (mVar 1)) (.tp [(.nm 2), (.nm 3)]) [2, 3] mYes (mCallF (sm_law_same n) (mCons (mVar 2) (mCons (mVar 3) mNil))) finP) mNil))))) sNx)
    (sSeq (sIf (mOrT (mTst (mBin (vIsN false) (mVar 1) (mC .non))) (mTst (mBin (vIsN false) (mVar 0) (mC .non)))) (sRet (mAndV (mBin (vIsN false) (mVar 1) (mC .non)) (mBin (vIsN false) (mVar 0) (mC .non)))) sNx)
    (sSeq (sIf (mOrT (mTst (mBin (vEqB true) (mIsi "bool" (mVar 0)) (mIsi "bool" (mVar 1)))) (mTst (mBin (vEqB true) (mIsi "int" (mVar 0)) (mIsi "int" (mVar 1))))) (sRet (mC (.bl false))) sNx)
    (sRet (mAndV (mBin (vEqB false) (mIsi "str" (mVar 0)) (mIsi "str" (mVar 1))) (mBin (vEqB false) (mVar 0) (mVar 1)))))))

/-- data no deeper than that -/
def datP : Nat → P → Bool
  | _, .non => true
  | _, .bl _ => true
  | _, .int _ => true
  | _, .str _ => true
  | n + 1, .tup l => decide (l.length ≤ 100000) && l.all (datP n)
  | n + 1, .lst l => decide (l.length ≤ 100000) && l.all (datP n)
  | _, _ => false
theorem zipL_self : ∀ l : List P, zipL l l = l.map fun x => .p (.tup [x, x])
  | [] => rfl
  | x :: l => by rw [zipL_cons, zipL_self l]; rfl
theorem same_refl : ∀ (n : Nat) (x : P), datP n x = true → ∀ st, callF (sm_law_same (n + 1)) [.p x, .p x] st = .ok (.p (.bl true)) st := by
  intro n
  induction n with
  | zero =>
    intro x h st
    refine Pu.call2 (Pu.of2 ?_) st
    cases x with
    | non => simp [sm_law_same, runF_e]
    | bl b => simp [sm_law_same, runF_e]
    | int b => simp [sm_law_same, runF_e]
    | str b => simp [sm_law_same, runF_e]
    | tup l => rw [datP] at h <;> first | cases h | (intros; contradiction)
    | lst l => rw [datP] at h <;> first | cases h | (intros; contradiction)
    | scr l => rw [datP] at h <;> first | cases h | (intros; contradiction)
    | dk _ _ => rw [datP] at h <;> first | cases h | (intros; contradiction)
    | obj _ _ => rw [datP] at h <;> first | cases h | (intros; contradiction)
    | exn _ _ => rw [datP] at h <;> first | cases h | (intros; contradiction)
  | succ n ih =>
    intro x h st
    refine Pu.call2 (Pu.of2 ?_) st
    cases x with
    | non => simp [sm_law_same, runF_e]
    | bl b => simp [sm_law_same, runF_e]
    | int b => simp [sm_law_same, runF_e]
    | str b => simp [sm_law_same, runF_e]
    | tup l =>
      rw [datP, Bool.and_eq_true] at h
      have hl := of_decide_eq_true h.1
      rw [sm_law_same, runF_e]
      simp [zipL_self, show l.length ≤ 1000000 by omega]
      rw [lcL_mapF (fun _ => .bl true) (fun x mx => ⟨_, by simp; rfl, by simp [ih x (List.all_eq_true.mp h.2 x mx)]⟩)]
      simp
    | lst l =>
      rw [datP, Bool.and_eq_true] at h
      have hl := of_decide_eq_true h.1
      rw [sm_law_same, runF_e]
      simp [zipL_self, show l.length ≤ 1000000 by omega]
      rw [lcL_mapF (fun _ => .bl true) (fun x mx => ⟨_, by simp; rfl, by simp [ih x (List.all_eq_true.mp h.2 x mx)]⟩)]
      simp
    | scr l => rw [datP] at h <;> first | cases h | (intros; contradiction)
    | dk _ _ => rw [datP] at h <;> first | cases h | (intros; contradiction)
    | obj _ _ => rw [datP] at h <;> first | cases h | (intros; contradiction)
    | exn _ _ => rw [datP] at h <;> first | cases h | (intros; contradiction)
end YS

/-! readings of questions -/
namespace YS
open PySem PySem.Spec PyProof.Rows L2 Y YZ
def sm_Question_atoms : FM := runF 1 1 (sRet (mCallV vLstOf (mCons (mFld [(0, 1)] (mVar 0)) mNil)))
def sm_Reading_init : FM := runF 2 2 (sSeq (sSetF [(2, 0)] (mVar 0) (mVar 1))
    (sSetF [(2, 1)] (mVar 0) (mMeth 0 sm_Question_atoms (mVar 1) mNil)))
def sm_first_row : FM := runF 1 1 (sSeq (sIf (mTst (mBin (vEqB false) (mBin vIx (mVar 0) (mC (.int 0))) (mC (.str "rest")))) (sRet (mTup (mCons (mC (.int 0)) (mCons (mC (.int 1)) mNil)))) sNx)
    (sRet (mTup (mCons (mBin vSub (mC (.int 0)) (mBin vIx (mVar 0) (mC (.int 2)))) (mCons (mC (.int 1)) (mCons (mC (.int 0)) (mCons (mC (.int 1)) mNil)))))))
def sm_Reading_start : FM := runF 1 2 (sRet (mTup (mCons (mCallV vTupOf (mCons (mLc (mSrc (mFld [(2, 1)] (mVar 0))) (.nm 1) [1] mYes (mCallF sm_first_row (mCons (mVar 1) mNil)) finP) mNil)) (mCons (mTup (mCons (mC (.int 0)) (mCons (mC (.int 0)) (mCons (mC (.int 0)) mNil)))) mNil))))
def sm_law_twos : FM := runF 1 3 (sSeq (sSet 1 (mC (.int 1)))
    (sSeq (sFor (mRng1 (mVar 0)) (.nm 2) (sSet 1 (mBin vMulI (mVar 1) (mC (.int 2)))))
    (sRet (mVar 1))))
def sm_law_bits : FM := runF 2 4 (sRet (mLc (mRng1 (mVar 1)) (.nm 2) [2] mYes (mCallV vTupOf (mCons (mLc (mSrc (mVar 0)) (.nm 3) [3] mYes (mBin vMod (mCallV vInt (mCons (mBin vFdv (mVar 3) (mCallF sm_law_twos (mCons (mVar 2) mNil))) mNil)) (mC (.int 2))) finP) mNil)) finP))
def sm_carried : FM := runF 3 4 (sSeq (sSet 3 (mBin vAdd (mVar 0) (mVar 2)))
    (sRet (mTup (mCons (mBin vFdv (mVar 3) (mC (.int 2))) (mCons (mCallV vInt (mCons (mAndV (mBin (vEqB false) (mVar 1) (mC (.int 1))) (mBin (vEqB false) (mBin vMod (mVar 3) (mC (.int 2))) (mC (.int 0)))) mNil)) mNil)))))
def sm_next_row : FM := runF 3 4 (sSeq (sSet 3 (mCallF sm_weighed (mCons (mBin vIx (mVar 0) (mC (.int 1))) (mCons (mVar 2) mNil))))
    (sSeq (sIf (mTst (mBin (vEqB false) (mBin vIx (mVar 0) (mC (.int 0))) (mC (.str "rest")))) (sRet (mTup (mCons (mBin vMod (mBin vAdd (mBin vIx (mVar 1) (mC (.int 0))) (mBin vMulI (mVar 3) (mBin vIx (mVar 1) (mC (.int 1))))) (mBin vIx (mVar 0) (mC (.int 2)))) (mCons (mBin vMod (mBin vMulI (mBin vIx (mVar 1) (mC (.int 1))) (mC (.int 2))) (mBin vIx (mVar 0) (mC (.int 2)))) mNil)))) sNx)
    (sRet (mBin vAdd (mCallF sm_carried (mCons (mBin vIx (mVar 1) (mC (.int 0))) (mCons (mBin vIx (mVar 1) (mC (.int 1))) (mCons (mVar 3) mNil)))) (mCallF sm_carried (mCons (mBin vIx (mVar 1) (mC (.int 2))) (mCons (mBin vIx (mVar 1) (mC (.int 3))) (mCons (mVar 3) mNil))))))))
def sm_Reading_step : FM := runF 3 10 (sSeq (sPut (.tp [(.nm 3), (.nm 4)]) (mVar 1))
    (sSeq (sSet 5 (mLc (mZipA (mFld [(2, 1)] (mVar 0)) (mVar 3)) (.tp [(.nm 6), (.nm 7)]) [6, 7] mYes (mCallF sm_next_row (mCons (mVar 6) (mCons (mVar 7) (mCons (mVar 2) mNil)))) finP))
    (sRet (mTup (mCons (mCallV vTupOf (mCons (mVar 5) mNil)) (mCons (mCallV vTupOf (mCons (mLc (mZipA (mVar 4) (mVar 2)) (.tp [(.nm 8), (.nm 9)]) [8, 9] mYes (mCallV vMaxS (mCons (mVar 8) (mCons (mVar 9) mNil))) finP) mNil)) mNil))))))
def sm_law_atoms : Nat → FM
  | 0 => fun _ _ => .no
  | n + 1 => runF 1 3 (sSeq (sIf (mTst (mBin (vInB true) (mBin vIx (mVar 0) (mC (.int 0))) (mLst (mCons (mC (.str "not")) (mCons (mC (.str "and")) (mCons (mC (.str "or")) mNil)))))) (sRet (mLst (mCons (mVar 0) mNil))) sNx)
    (sSeq (sSet 1 (mLst mNil))
    (sSeq (sFor (mSrc (mSl (mVar 0) (oSome (mC (.int 1))) oNone)) (.nm 2) (sSet 1 (mBin vAdd (mVar 1) (mCallF (sm_law_atoms n) (mCons (mVar 2) mNil)))))
    (sRet (mVar 1)))))
def sm_law_state : FM := runF 3 8 (sSeq (sPar 3 4 (mCons (mLstC mNil) (mCons (mCallF sm_law_twos (mCons (mVar 2) mNil)) mNil)))
    (sSeq (sFor (mSrc (mCallF (sm_law_atoms 12) (mCons (mVar 0) mNil))) (.nm 5) (sSeq (sSet 6 (mCallF sm_law_value (mCons (mBin vIx (mVar 5) (mC (.int 1))) (mCons (mVar 1) mNil))))
    (sIf (mTst (mBin (vEqB false) (mBin vIx (mVar 5) (mC (.int 0))) (mC (.str "rest")))) (sExpr (mBm "list" vAppend (mVar 3) (mCons (mTup (mCons (mBin vMod (mCallV vInt (mCons (mVar 6) mNil)) (mBin vIx (mVar 5) (mC (.int 2)))) (mCons (mBin vMod (mCallV vInt (mCons (mVar 4) mNil)) (mBin vIx (mVar 5) (mC (.int 2)))) mNil))) mNil))) (sSeq (sSet 7 (mBin vSub (mVar 6) (mBin vIx (mVar 5) (mC (.int 2)))))
    (sExpr (mBm "list" vAppend (mVar 3) (mCons (mTup (mCons (mBin vFdv (mVar 7) (mVar 4)) (mCons (mCallV vInt (mCons (mBin (vEqB false) (mBin vMod (mCallV vInt (mCons (mVar 7) mNil)) (mVar 4)) (mC (.int 0))) mNil)) (mCons (mBin vFdv (mVar 6) (mVar 4)) (mCons (mCallV vInt (mCons (mBin (vEqB false) (mBin vMod (mCallV vInt (mCons (mVar 6) mNil)) (mVar 4)) (mC (.int 0))) mNil)) mNil))))) mNil)))))))
    (sRet (mTup (mCons (mCallV vTupOf (mCons (mVar 3) mNil)) (mCons (mCallF sm_law_flags (mCons (mVar 1) mNil)) mNil))))))
def sm_is_at_least : FM := runF 1 1 (sRet (mBin vGe (mBin vIx (mVar 0) (mC (.int 0))) (mC (.int 0))))
def sm_is_zero : FM := runF 1 1 (sRet (mAndV (mBin (vEqB false) (mBin vIx (mVar 0) (mC (.int 0))) (mC (.int 0))) (mBin (vEqB false) (mBin vIx (mVar 0) (mC (.int 1))) (mC (.int 1)))))
def sm_row_answer : FM := runF 2 2 (sSeq (sIf (mTst (mBin (vEqB false) (mBin vIx (mVar 0) (mC (.int 0))) (mC (.str "rest")))) (sRet (mBin (vEqB false) (mBin vIx (mVar 1) (mC (.int 0))) (mBin vIx (mVar 0) (mC (.int 3))))) sNx)
    (sSeq (sIf (mTst (mBin (vEqB false) (mBin vIx (mVar 0) (mC (.int 0))) (mC (.str "at least")))) (sRet (mCallF sm_is_at_least (mCons (mVar 1) mNil))) sNx)
    (sRet (mOrV (mCallF sm_is_zero (mCons (mVar 1) mNil)) (mAndV (mBin (vEqB false) (mBin vIx (mVar 0) (mC (.int 0))) (mC (.str "at most"))) (mBin vLt (mBin vIx (mVar 1) (mC (.int 0))) (mC (.int 0))))))))
def sm_Question_joined_by : FM := runF 2 2 (sRet (mCallF (sm_joined 12) (mCons (mFld [(0, 0)] (mVar 0)) (mCons (mCallV vLstOf (mCons (mVar 1) mNil)) mNil))))
def sm_Reading_answer : FM := runF 2 4 (sRet (mMeth 0 sm_Question_joined_by (mFld [(2, 0)] (mVar 0)) (mCons (mLc (mZipA (mFld [(2, 1)] (mVar 0)) (mBin vIx (mVar 1) (mC (.int 0)))) (.tp [(.nm 2), (.nm 3)]) [2, 3] mYes (mCallF sm_row_answer (mCons (mVar 2) (mCons (mVar 3) mNil))) finP) mNil)))
def sm_law_far : FM := runF 2 3 (sRet (mCallF (sm_law_truth 12) (mCons (mVar 0) (mCons (mCallV vTupOf (mCons (mLc (mSrc (mVar 1)) (.nm 2) [2] mYes (mBin vMulI (mVar 2) (mC (.int 6000))) finP) mNil)) mNil))))
def sm_far_row : FM := runF 2 2 (sSeq (sIf (mTst (mBin (vEqB false) (mBin vIx (mVar 0) (mC (.int 0))) (mC (.str "rest")))) (sRet (mBin (vEqB false) (mBin vIx (mVar 0) (mC (.int 3))) (mC (.int 0)))) sNx)
    (sSeq (sIf (mTru (mCallF sm_is_zero (mCons (mSl (mVar 1) (oSome (mC (.int 2))) oNone) mNil))) (sRet (mOrV (mBin (vEqB false) (mBin vIx (mVar 0) (mC (.int 2))) (mC (.int 0))) (mAndV (mBin (vEqB false) (mBin vLt (mBin vIx (mVar 0) (mC (.int 2))) (mC (.int 0))) (mBin (vEqB false) (mBin vIx (mVar 0) (mC (.int 0))) (mC (.str "at least")))) (mBin (vEqB true) (mBin vIx (mVar 0) (mC (.int 0))) (mC (.str "equal")))))) sNx)
    (sRet (mAndV (mBin (vEqB false) (mBin vGe (mBin vIx (mVar 1) (mC (.int 2))) (mC (.int 0))) (mBin (vEqB false) (mBin vIx (mVar 0) (mC (.int 0))) (mC (.str "at least")))) (mBin (vEqB true) (mBin vIx (mVar 0) (mC (.int 0))) (mC (.str "equal")))))))
def sm_Reading_far : FM := runF 2 4 (sRet (mMeth 0 sm_Question_joined_by (mFld [(2, 0)] (mVar 0)) (mCons (mLc (mZipA (mFld [(2, 1)] (mVar 0)) (mBin vIx (mVar 1) (mC (.int 0)))) (.tp [(.nm 2), (.nm 3)]) [2, 3] mYes (mCallF sm_far_row (mCons (mVar 2) (mCons (mVar 3) mNil))) finP) mNil)))

def tw (n : Nat) : Int := (2 : Int) ^ n
theorem tw_zero : tw 0 = 1 := rfl
theorem tw_succ (n : Nat) : tw (n + 1) = tw n * 2 := Int.pow_succ 2 n
theorem tw_pos : ∀ n : Nat, 0 < tw n
  | 0 => by decide
  | n + 1 => by have := tw_pos n; rw [tw_succ]; omega
theorem tw_mono : ∀ (n k : Nat), tw n ≤ tw (n + k)
  | n, 0 => Int.le_refl _
  | n, k + 1 => by have := tw_mono n k; have := tw_pos (n + k); rw [← Nat.add_assoc, tw_succ]; omega
theorem tw_le {n : Nat} (h : n ≤ 17) : tw n ≤ 131072 := by
  have := tw_mono n (17 - n)
  rw [show n + (17 - n) = 17 by omega] at this
  exact this
theorem tw_mul {n : Nat} (h : n ≤ 17) {k : Int} (h1 : -1000 ≤ k) (h2 : k ≤ 1000) : mulOk (tw n) k = true ∧ mulOk k (tw n) = true := by
  have := tw_le h
  have := tw_pos n
  exact ⟨mulOk_of (Sm.small (by omega)) (Sm.small (by omega)), mulOk_of (Sm.small (by omega)) (Sm.small (by omega))⟩
theorem tw_nat (n : Nat) : (tw n).natAbs = 2 ^ n := by unfold tw; rw [Int.natAbs_pow]; rfl
theorem tw_lt {n : Nat} (h : n ≤ 200) : (tw n).natAbs < 2 ^ 201 := by rw [tw_nat]; exact Nat.pow_lt_pow_right (by decide) (by omega)
theorem tw_sm {n : Nat} (h : n ≤ 200) : Sm (tw n) := Sm.lt 201 (tw_lt h) (by decide)
theorem tw_log {n : Nat} (h : n ≤ 200) : (tw n).natAbs.log2 < 9000 := Nat.lt_trans (log2_lt (tw_lt h) (by decide)) (by decide)
theorem sm_k {k : Int} (h1 : -1000 ≤ k) (h2 : k ≤ 1000) : Sm k := Sm.small (by omega)
theorem law_twos_ok {n : Nat} (h : n ≤ 200) (st : List Cell) : callF sm_law_twos [.p (.int (n : Nat))] st = .ok (.p (.int (tw n))) st := by
  refine Pu.call1 (Pu.of1 ?_) st
  simp [sm_law_twos, runF_e, -forL_cons, show n ≤ 1000000 by omega, show -1000000 ≤ (n : Int) by omega, show (n : Int) ≤ 1000000 by omega]
  refine forL_rule (fun r => Gv (runR (r.then _)) _) (fun i σ st => ∃ x, σ = [some (.p (.int (n : Nat))), some (.p (.int (tw i))), x] ∧ st = []) ⟨none, rfl, rfl⟩ ?_ ?_
  · rintro i w σ st hw ⟨x, rfl, rfl⟩
    obtain ⟨hi, rfl⟩ := rngL_get hw
    conv => arg 3; simp [mulOk_of (tw_sm (n := i) (by omega)) (sm_k (k := 2) (by decide) (by decide)), ← tw_succ]
    exact ⟨_, rfl, rfl⟩
  · rintro σ st ⟨x, rfl, rfl⟩
    rw [rngL_len]
    simp
def bit (c : Int) (i : Nat) : Int := c / tw i % 2
def bits (x y z : Int) (i : Nat) : P := T3 (bit x i) (bit y i) (bit z i)
theorem law_bits_ok {n : Nat} (h : n ≤ 200) (x y z : Int) (st : List Cell) : callF sm_law_bits [.p (T3 x y z), .p (.int (n : Nat))] st = .ok (.p (.lst ((List.range n).map (bits x y z)))) st := by
  refine Pu.call2 (Pu.of2 ?_) st
  simp [sm_law_bits, runF_e, show n ≤ 1000000 by omega, show -1000000 ≤ (n : Int) by omega, show (n : Int) ≤ 1000000 by omega]
  unfold rngL
  rw [lcL_mapF (fun i => bits x y z i) (fun i mi => by
    have hi : i < n := List.mem_range.mp mi
    have t := fun st => law_twos_ok (n := i) (by omega) st
    exact ⟨_, put_nm _ _, by simp [t, tw_pos, tw_log (n := i) (by omega), bits, bit]⟩)]
  simp

/-! ### rows -/
def ex (S : Int) (n : Nat) : Int := if S % tw n = 0 then 1 else 0
def row (x y z : Int) (n : Nat) : Tr → P
  | .at _ a b c k => .tup [.int ((wt a b c x y z - k) / tw n), .int (ex (wt a b c x y z - k) n), .int (wt a b c x y z / tw n), .int (ex (wt a b c x y z) n)]
  | .rest a b c d _ => .tup [.int (wt a b c x y z % d), .int (tw n % d)]
  | _ => .non
def rstate (q : Tr) (x y z : Int) (n : Nat) : P := .tup [.tup (q.atoms.map (row x y z n)), T3 (fl x) (fl y) (fl z)]
theorem wt_zero (a b c : Int) : wt a b c 0 0 0 = 0 := by unfold wt; simp
theorem first_row_ok {t : Tr} (ht : isAt t) (hg : t.good) (st : List Cell) : callF sm_first_row [.p t.enc] st = .ok (.p (row 0 0 0 0 t)) st := by
  refine Pu.call1 (Pu.of1 ?_) st
  cases t with
  | «at» w a b c n => simp [sm_first_row, runF_e, Tr.enc, row, wt_zero, tw_zero, ex, w.ne, w.nr]
  | rest a b c d n =>
    rw [Tr.good] at hg
    simp [sm_first_row, runF_e, Tr.enc, row, wt_zero, tw_zero, Int.emod_eq_of_lt (show (0 : Int) ≤ 1 by decide) (show 1 < d by omega)]
  | no t => exact ht.elim
  | op b l => exact ht.elim
def rob (q : Tr) : P := .obj 2 [qob q, .lst (q.atoms.map Tr.enc)]
theorem question_atoms_ok {q : Tr} (h : q.fit) (st : List Cell) : callF sm_Question_atoms [.p (qob q)] st = .ok (.p (.lst (q.atoms.map Tr.enc))) st := by
  refine Pu.call1 (Pu.of1 ?_) st
  have := h.2.2
  simp [sm_Question_atoms, runF_e, qob, show q.atoms.length ≤ 1000000 by omega]
theorem clsq (q : Tr) (st : List Cell) : clsOf st (.p (qob q)) = some 0 := rfl
theorem clsr (q : Tr) (st : List Cell) : clsOf st (.p (rob q)) = some 2 := rfl
theorem reading_make {q : Tr} (h : q.fit) (st : List Cell) : makeF 2 2 sm_Reading_init [.p (qob q)] st = .ok (.p (rob q)) st := by
  refine makeF1 (m := [qob q, .lst (q.atoms.map Tr.enc)]) ?_ rfl st
  simp [sm_Reading_init, runF_e, clsq, question_atoms_ok h]
theorem start_ok {q : Tr} (h : q.fit) (st : List Cell) : callF sm_Reading_start [.p (rob q)] st = .ok (.p (rstate q 0 0 0 0)) st := by
  refine Pu.call1 (Pu.of1 ?_) st
  have := h.2.2
  simp [sm_Reading_start, runF_e, rob, show q.atoms.length ≤ 1000000 by omega]
  rw [lcL_mapF (row 0 0 0 0) (fun u mu => by
    have := atoms_at 4 q h.1 h.2.1 u mu
    exact ⟨_, put_nm _ _, by simp [first_row_ok this.1 this.2]⟩)]
  simp [rstate, fl]
theorem div2 (S t : Int) (n : Nat) : (S + t * tw n) / tw (n + 1) = (S / tw n + t) / 2 := by
  have := tw_pos n
  rw [tw_succ, ← Int.ediv_ediv_of_nonneg (Int.le_of_lt this), Int.add_mul_ediv_right _ _ (by omega)]
theorem mod2 (S t : Int) (n : Nat) : (S + t * tw n) % tw (n + 1) = 0 ↔ S % tw n = 0 ∧ (S / tw n + t) % 2 = 0 := by
  have hp := tw_pos n
  have h1 := Int.emod_add_mul_ediv (S + t * tw n) (tw n * 2)
  have h2 := Int.emod_add_mul_ediv S (tw n)
  have h3 := div2 S t n
  have h4 := Int.emod_nonneg S (show tw n ≠ 0 by omega)
  have h5 := Int.emod_lt_of_pos S hp
  rw [tw_succ] at h3 ⊢
  rw [h3] at h1
  generalize hq : (S + t * tw n) % (tw n * 2) = r at *
  generalize S / tw n = q at *
  generalize S % tw n = m at *
  generalize hP : tw n = p at *
  have h6 := Int.emod_add_mul_ediv (q + t) 2
  generalize (q + t) / 2 = u at *
  have : (q + t) % 2 = 0 ∨ (q + t) % 2 = 1 := by omega
  rcases this with e | e
  · rw [e] at h6 ⊢
    have : r = m := by grind
    omega
  · rw [e] at h6 ⊢
    have : r = m + p := by grind
    omega
theorem l2 : Nat.log2 2 < 9000 := by decide +kernel
theorem carried_ok (S t : Int) (n : Nat) (st : List Cell) : callF sm_carried [.p (.int (S / tw n)), .p (.int (ex S n)), .p (.int t)] st = .ok (.p (.tup [.int ((S + t * tw n) / tw (n + 1)), .int (ex (S + t * tw n) (n + 1))])) st := by
  refine Pu.call3 (Pu.of3 ?_) st
  have m := mod2 S t n
  by_cases h1 : S % tw n = 0 <;> by_cases h2 : (S / tw n + t) % 2 = 0 <;> simp [h1, h2] at m <;> simp [sm_carried, runF_e, l2, div2, ex, m, h1, h2]
theorem weighw {a b c x y z : Int} (h1 : mulOk a x = true) (h2 : mulOk b y = true) (h3 : mulOk c z = true) (st : List Cell) : callF sm_weighed [.p (T3 a b c), .p (T3 x y z)] st = .ok (.p (.int (wt a b c x y z))) st := weighed3 h1 h2 h3 st
theorem wt_add (a b c x y z u v t p : Int) : wt a b c (x + u * p) (y + v * p) (z + t * p) = wt a b c x y z + wt a b c u v t * p := by
  unfold wt; grind
theorem wt_bits {a b c u v t : Int} (h : F3 a b c) (hu : u = 0 ∨ u = 1) (hv : v = 0 ∨ v = 1) (ht : t = 0 ∨ t = 1) : -9 ≤ wt a b c u v t ∧ wt a b c u v t ≤ 9 := by
  obtain ⟨h1, h2, h3, _⟩ := h
  unfold wt
  rcases hu with rfl | rfl <;> rcases hv with rfl | rfl <;> rcases ht with rfl | rfl <;> omega
theorem next_row_ok {q : Tr} (ht : isAt q) (hg : q.good) {x y z u v t : Int} (hu : u = 0 ∨ u = 1) (hv : v = 0 ∨ v = 1) (hw : t = 0 ∨ t = 1) (n : Nat) (st : List Cell) :
    callF sm_next_row [.p q.enc, .p (row x y z n q), .p (T3 u v t)] st = .ok (.p (row (x + u * tw n) (y + v * tw n) (z + t * tw n) (n + 1) q)) st := by
  refine Pu.call3 (Pu.of3 ?_) st
  have su : Sm u := Sm.small (by omega)
  have sv : Sm v := Sm.small (by omega)
  have sw : Sm t := Sm.small (by omega)
  cases q with
  | «at» w a b c k =>
    rw [Tr.good] at hg
    obtain ⟨m1, m2, m3⟩ := F3.ok hg.1 su sv sw
    have e : ∀ S T : Int, S + T - k = S - k + T := fun _ _ => by omega
    have cr := fun S t st => carried_ok S t n st
    have we := fun st => weighw (a := a) (b := b) (c := c) m1 m2 m3 st
    have nr := w.nr
    have nq : (Str.ofString "rest") ≠ w.s := w.ne.2.2.2.2.2.2.2
    simp only [row, wt_add, e, Tr.enc]
    generalize wt a b c u v t = W at *
    generalize wt a b c x y z = S at *
    simp [sm_next_row, runF_e, we, cr, w.ne, nr, nq]
  | rest a b c d k =>
    rw [Tr.good] at hg
    obtain ⟨m1, m2, m3⟩ := F3.ok hg.1 su sv sw
    have we := fun st => weighw (a := a) (b := b) (c := c) m1 m2 m3 st
    have wb := wt_bits hg.1 hu hv hw
    simp only [row, wt_add, Tr.enc]
    generalize wt a b c u v t = W at *
    generalize wt a b c x y z = S at *
    have l1 := Int.emod_lt_of_pos (tw n) (show 0 < d by omega)
    have l2 := Int.emod_nonneg (tw n) (show d ≠ 0 by omega)
    have k1 : mulOk W (tw n % d) = true := mulOk_of (Sm.small (by omega)) (Sm.small (by omega))
    have k2 : mulOk (tw n % d) 2 = true := mulOk_of (Sm.small (by omega)) (Sm.small (by omega))
    have e1 : (S % d + W * (tw n % d)) % d = (S + W * tw n) % d := by
      rw [Int.add_emod, Int.mul_emod, Int.emod_emod, Int.emod_emod, ← Int.mul_emod, ← Int.add_emod]
    have e2 : (tw n % d * 2) % d = tw (n + 1) % d := by
      rw [tw_succ, Int.mul_emod, Int.emod_emod, ← Int.mul_emod]
    simp [sm_next_row, runF_e, we, k1, k2, e1, e2, show 0 < d by omega]
  | no t => exact ht.elim
  | op b l => exact ht.elim

theorem zipL_map {α : Type} (f g : α → P) : ∀ l : List α, zipL (l.map f) (l.map g) = l.map fun t => .p (.tup [f t, g t])
  | [] => by simp
  | t :: l => by rw [List.map_cons, List.map_cons, zipL_cons, zipL_map f g l]; rfl
theorem fl_step {x u : Int} (hx : 0 ≤ x) (hu : u = 0 ∨ u = 1) (n : Nat) : (if u > fl x then u else fl x) = fl (x + u * tw n) := by
  have := tw_pos n
  unfold fl
  rcases hu with rfl | rfl <;> by_cases h : 0 < x <;> simp [h] <;> omega
theorem step_ok {q : Tr} (h : q.fit) {x y z u v t : Int} (hx : 0 ≤ x) (hy : 0 ≤ y) (hz : 0 ≤ z) (hu : u = 0 ∨ u = 1) (hv : v = 0 ∨ v = 1) (hw : t = 0 ∨ t = 1) (n : Nat) (st : List Cell) :
    callF sm_Reading_step [.p (rob q), .p (rstate q x y z n), .p (T3 u v t)] st = .ok (.p (rstate q (x + u * tw n) (y + v * tw n) (z + t * tw n) (n + 1))) st := by
  refine Pu.call3 (Pu.of3 ?_) st
  have := h.2.2
  simp [sm_Reading_step, runF_e, rob, rstate, zipL_map, show q.atoms.length ≤ 1000000 by omega]
  rw [lcL_mapF (row (x + u * tw n) (y + v * tw n) (z + t * tw n) (n + 1)) (fun a ma => by
    have := atoms_at 4 q h.1 h.2.1 a ma
    exact ⟨_, by simp; rfl, by simp [next_row_ok this.1 this.2 hu hv hw]⟩)]
  have e1 := fl_step hx hu n
  have e2 := fl_step hy hv n
  have e3 := fl_step hz hw n
  simp only [gt_iff_lt] at e1 e2 e3
  simp [e1, e2, e3]
/-! ### what the law tells -/
theorem take_sum : ∀ {m : List Nat} {i k : Nat}, m[i]? = some k → (m.take i).sum + k ≤ m.sum
  | [], i, k, h => by simp at h
  | a :: m, 0, k, h => by
    obtain rfl : a = k := Option.some.inj h
    simp
  | a :: m, i + 1, k, h => by
    have := take_sum (m := m) (i := i) (k := k) (by simpa using h)
    simp
    omega
theorem law_atoms_ok : ∀ (n : Nat) (t : Tr), t.good → t.depth ≤ n → t.atoms.length ≤ 1000000 → ∀ st, callF (sm_law_atoms n) [.p t.enc] st = .ok (.p (.lst (t.atoms.map Tr.enc))) st := by
  intro n
  induction n with
  | zero => intro t _ h; cases t <;> rw [Tr.depth] at h <;> omega
  | succ n ih =>
    intro t hg h hc st
    refine Pu.call1 (Pu.of1 ?_) st
    cases t with
    | «at» w a b c k => simp [sm_law_atoms, runF_e, Tr.enc, Tr.atoms, w.ne]
    | rest a b c d k => simp [sm_law_atoms, runF_e, Tr.enc, Tr.atoms]
    | no t =>
      rw [Tr.depth] at h
      rw [Tr.good] at hg
      rw [Tr.atoms] at hc
      simp [sm_law_atoms, runF_e, Tr.enc, Tr.atoms, ih t hg (by omega) hc, hc]
    | op b l =>
      rw [Tr.depth] at h
      rw [Tr.good, goods_all] at hg
      rw [Tr.atoms, atomss_flat, List.length_flatMap] at hc
      rw [Tr.enc, encs_map, Tr.atoms, atomss_flat]
      have lp : ∀ w : Str, Gv (runR ((forL (.nm 2) (sSet 1 (mBin vAdd (mVar 1) (mCallF (sm_law_atoms n) (mCons (mVar 2) mNil)))) (l.map (W.p ∘ Tr.enc)) [some (.p (.tup (.str w :: l.map Tr.enc))), some (.p (.lst [])), none] []).then (sRet (mVar 1)))) (.lst ((l.flatMap Tr.atoms).map Tr.enc)) := by
        intro w
        refine forL_rule (fun r => Gv (runR (r.then _)) _) (fun i σ st => ∃ x, σ = [some (.p (.tup (.str w :: l.map Tr.enc))), some (.p (.lst (((l.take i).flatMap Tr.atoms).map Tr.enc))), x] ∧ st = []) ⟨none, rfl, rfl⟩ ?_ ?_
        · rintro i v σ st hv ⟨x, rfl, rfl⟩
          rw [List.getElem?_map] at hv
          obtain ⟨t, ht, rfl⟩ := Option.map_eq_some_iff.mp hv
          have mt := List.mem_of_getElem? ht
          have hd := depths_le mt
          have ts := take_sum (m := l.map fun t => t.atoms.length) (i := i) (k := t.atoms.length) (by rw [List.getElem?_map, ht]; rfl)
          conv => arg 3; simp [ih t (hg.2.2 t mt) (by omega) (by omega), show (List.take i (l.map fun t => t.atoms.length)).sum + t.atoms.length ≤ 1000000 by omega]
          refine ⟨some (.p t.enc), ?_, rfl⟩
          rw [List.take_add_one, ht]; simp
        · rintro σ st ⟨x, rfl, rfl⟩
          rw [List.length_map, List.take_of_length_le (Nat.le_refl _)]
          simp
      cases b <;> simp [sm_law_atoms, runF_e, opw, -forL_cons, show l.length ≤ 1000000 by omega] <;> exact lp _
theorem law_state_ok {q : Tr} (h : q.fit) {x y z : Int} (hx : Sm x) (hy : Sm y) (hz : Sm z) {n : Nat} (hn : n ≤ 200) (st : List Cell) : callF sm_law_state [.p q.enc, .p (T3 x y z), .p (.int (n : Nat))] st = .ok (.p (rstate q x y z n)) st := by
  refine Pu.call3 (Pu.of3 ?_) st
  have ha := h.2.2
  have p := tw_pos n
  have lg := tw_log hn
  simp [sm_law_state, runF_e, -forL_cons, law_twos_ok hn, law_atoms_ok 12 q h.1 (by have := h.2.1; omega) (by omega), show q.atoms.length ≤ 1000000 by omega]
  refine forL_rule (fun r => Gv (runR (r.then _)) _) (fun i σ st => ∃ a b c, σ = [some (.p q.enc), some (.p (T3 x y z)), some (.p (.int (n : Nat))), some (.r 0), some (.p (.int (tw n))), a, b, c] ∧ st = [.lst ((q.atoms.take i).map fun t => W.p (row x y z n t))]) ⟨none, none, none, rfl, rfl⟩ ?_ ?_
  · rintro i v σ st hv ⟨a', b', c', rfl, rfl⟩
    rw [List.getElem?_map] at hv
    obtain ⟨t, ht, rfl⟩ := Option.map_eq_some_iff.mp hv
    have mt := List.mem_of_getElem? ht
    obtain ⟨at', g⟩ := atoms_at 4 q h.1 h.2.1 t mt
    have hi := (List.getElem?_eq_some_iff.mp ht).1
    have tk : (q.atoms.take (i + 1)).map (fun t => W.p (row x y z n t)) = (q.atoms.take i).map (fun t => W.p (row x y z n t)) ++ [W.p (row x y z n t)] := by
      rw [List.take_add_one, ht]; simp
    rw [tk]
    cases t with
    | «at» w a b c k =>
      rw [Tr.good] at g
      obtain ⟨m1, m2, m3⟩ := F3.ok g.1 hx hy hz
      have nq : (Str.ofString "rest") ≠ w.s := w.ne.2.2.2.2.2.2.2
      conv => arg 3; simp [Tr.enc, law_value3 m1 m2 m3, w.nr, w.ne, nq, p, lg, show min i q.atoms.length < 1000000 by omega]
      refine ⟨_, _, _, rfl, ?_⟩
      simp [row, ex]
    | rest a b c d k =>
      rw [Tr.good] at g
      obtain ⟨m1, m2, m3⟩ := F3.ok g.1 hx hy hz
      conv => arg 3; simp [Tr.enc, law_value3 m1 m2 m3, show 0 < d by omega, show min i q.atoms.length < 1000000 by omega]
      refine ⟨_, _, _, rfl, ?_⟩
      simp [row]
    | no t => exact at'.elim
    | op b l => exact at'.elim
  · rintro σ st ⟨a, b, c, rfl, rfl⟩
    rw [List.length_map, List.take_of_length_le (Nat.le_refl _)]
    simp [law_flags3, rstate]
/-! ### answers -/
theorem ediv_z {S : Int} {n : Nat} : S / tw n = 0 ∧ S % tw n = 0 ↔ S = 0 := by
  have := Int.emod_add_mul_ediv S (tw n)
  constructor
  · rintro ⟨h, h2⟩
    rw [h, h2] at this
    simpa using this.symm
  · rintro rfl
    simp
theorem ediv_ge {S : Int} {n : Nat} : 0 ≤ S / tw n ↔ 0 ≤ S := Int.ediv_nonneg_iff_of_pos (tw_pos n)
theorem is_at_least_ok (A : Int) (l : List P) (st : List Cell) : callF sm_is_at_least [.p (.tup (.int A :: l))] st = .ok (.p (.bl (decide (0 ≤ A)))) st := by
  refine Pu.call1 (Pu.of1 ?_) st
  simp [sm_is_at_least, runF_e]
theorem is_zero_ok (A B : Int) (l : List P) (st : List Cell) : callF sm_is_zero [.p (.tup (.int A :: .int B :: l))] st = .ok (.p (.bl (decide (A = 0 ∧ B = 1)))) st := by
  refine Pu.call1 (Pu.of1 ?_) st
  by_cases h : A = 0 <;> by_cases h1 : B = 1 <;> simp [sm_is_zero, runF_e, h, h1]
theorem row_answer_ok {t : Tr} (ht : isAt t) (hg : t.good) (x y z : Int) (n : Nat) (st : List Cell) : callF sm_row_answer [.p t.enc, .p (row x y z n t)] st = .ok (.p (.bl (ans x y z t))) st := by
  refine Pu.call2 (Pu.of2 ?_) st
  cases t with
  | «at» w a b c k =>
    have hz := ediv_z (S := wt a b c x y z - k) (n := n)
    have hg' := ediv_ge (S := wt a b c x y z - k) (n := n)
    cases w <;> simp only [ans, row, Tr.enc, Wd.s, ex] <;> generalize wt a b c x y z = S at * <;> generalize (S - k) / tw n = A at * <;> generalize (S - k) % tw n = B at *
    · rw [show decide (k ≤ S) = decide (0 ≤ A) from decide_eq_decide.mpr (by omega)]
      simp [sm_row_answer, is_at_least_ok, runF_e]
    · rw [show decide (S ≤ k) = decide ((A = 0 ∧ B = 0) ∨ A < 0) from decide_eq_decide.mpr (by omega)]
      by_cases h1 : A = 0 <;> by_cases h2 : B = 0 <;> by_cases h3 : A < 0 <;> simp [sm_row_answer, is_zero_ok, runF_e, h1, h2, h3]
    · rw [show (S == k) = decide (A = 0 ∧ B = 0) by rw [Bool.eq_iff_iff]; simp; omega]
      by_cases h1 : A = 0 <;> by_cases h2 : B = 0 <;> by_cases h3 : A < 0 <;> simp [sm_row_answer, is_zero_ok, runF_e, h1, h2, h3]
  | rest a b c d k => simp [sm_row_answer, runF_e, row, Tr.enc, ans]
  | no t => exact ht.elim
  | op b l => exact ht.elim

theorem joined_by_ok {q : Tr} (h : q.fit) (g : Tr → Bool) (st : List Cell) : callF sm_Question_joined_by [.p (qob q), .p (.lst (q.atoms.map fun u => .bl (g u)))] st = .ok (.p (.bl (q.ev g))) st := by
  refine Pu.call2 (Pu.of2 ?_) st
  have ha := h.2.2
  simp [sm_Question_joined_by, runF_e, qob, show q.atoms.length ≤ 1000000 by omega, joined_ok g 12 q h.1 (by have := h.2.1; omega) h.2.1]
theorem reading_answer_ok {q : Tr} (h : q.fit) (x y z : Int) (n : Nat) (st : List Cell) : callF sm_Reading_answer [.p (rob q), .p (rstate q x y z n)] st = .ok (.p (.bl (q.ev (ans x y z)))) st := by
  refine Pu.call2 (Pu.of2 ?_) st
  have ha := h.2.2
  simp [sm_Reading_answer, runF_e, rob, rstate, clsq, zipL_map, show q.atoms.length ≤ 1000000 by omega]
  rw [lcL_mapF (fun u => .bl (ans x y z u)) (fun a ma => by
    have := atoms_at 4 q h.1 h.2.1 a ma
    exact ⟨_, by simp; rfl, by simp [row_answer_ok this.1 this.2]⟩)]
  simp [joined_by_ok h]
theorem wt6000 (a b c x y z : Int) : wt a b c (x * 6000) (y * 6000) (z * 6000) = wt a b c x y z * 6000 := by
  unfold wt; grind
theorem far_row_ok {t : Tr} (ht : isAt t) (hg : t.good) (x y z : Int) (n : Nat) (st : List Cell) : callF sm_far_row [.p t.enc, .p (row x y z n t)] st = .ok (.p (.bl (ans (x * 6000) (y * 6000) (z * 6000) t))) st := by
  refine Pu.call2 (Pu.of2 ?_) st
  cases t with
  | «at» w a b c k =>
    rw [Tr.good] at hg
    have hz := ediv_z (S := wt a b c x y z) (n := n)
    have hg' := ediv_ge (S := wt a b c x y z) (n := n)
    cases w <;> simp only [ans, row, Tr.enc, Wd.s, ex, wt6000] <;> generalize wt a b c x y z = S at * <;> generalize S / tw n = A at * <;> generalize S % tw n = B at *
    · rw [show decide (k ≤ S * 6000) = (if A = 0 ∧ B = 0 then decide (k = 0 ∨ k < 0) else decide (0 ≤ A)) by split <;> exact decide_eq_decide.mpr (by omega)]
      by_cases h1 : A = 0 <;> by_cases h2 : B = 0 <;> by_cases h3 : k = 0 <;> by_cases h4 : k < 0 <;> by_cases h5 : 0 ≤ A <;> simp [sm_far_row, is_zero_ok, runF_e, h1, h2, h3, h4, h5]
    · rw [show decide (S * 6000 ≤ k) = (if A = 0 ∧ B = 0 then decide (k = 0 ∨ ¬ k < 0) else decide (¬ 0 ≤ A)) by split <;> exact decide_eq_decide.mpr (by omega)]
      by_cases h1 : A = 0 <;> by_cases h2 : B = 0 <;> by_cases h3 : k = 0 <;> by_cases h4 : k < 0 <;> by_cases h5 : 0 ≤ A <;> simp [sm_far_row, is_zero_ok, runF_e, h1, h2, h3, h4, h5]
    · rw [show (S * 6000 == k) = (if A = 0 ∧ B = 0 then decide (k = 0) else false) by rw [Bool.eq_iff_iff]; split <;> simp <;> omega]
      by_cases h1 : A = 0 <;> by_cases h2 : B = 0 <;> by_cases h3 : k = 0 <;> by_cases h4 : k < 0 <;> by_cases h5 : 0 ≤ A <;> simp [sm_far_row, is_zero_ok, runF_e, h1, h2, h3, h4, h5]
  | rest a b c d k =>
    rw [Tr.good] at hg
    have : wt a b c x y z * 6000 % d = 0 := by
      have : d = 2 ∨ d = 3 ∨ d = 4 ∨ d = 5 := by omega
      rcases this with rfl | rfl | rfl | rfl <;> omega
    have e : (k == 0) = (0 == k) := by rw [Bool.eq_iff_iff]; simp; omega
    simp [sm_far_row, runF_e, row, Tr.enc, ans, wt6000, this, e]
  | no t => exact ht.elim
  | op b l => exact ht.elim
theorem reading_far_ok {q : Tr} (h : q.fit) (x y z : Int) (n : Nat) (st : List Cell) : callF sm_Reading_far [.p (rob q), .p (rstate q x y z n)] st = .ok (.p (.bl (q.ev (ans (x * 6000) (y * 6000) (z * 6000))))) st := by
  refine Pu.call2 (Pu.of2 ?_) st
  have ha := h.2.2
  simp [sm_Reading_far, runF_e, rob, rstate, clsq, zipL_map, show q.atoms.length ≤ 1000000 by omega]
  rw [lcL_mapF (fun u => .bl (ans (x * 6000) (y * 6000) (z * 6000) u)) (fun a ma => by
    have := atoms_at 4 q h.1 h.2.1 a ma
    exact ⟨_, by simp; rfl, by simp [far_row_ok this.1 this.2]⟩)]
  simp [joined_by_ok h]
theorem law_far_ok {q : Tr} (h : q.fit) {x y z : Int} (hx : 0 ≤ x ∧ x ≤ 1000000) (hy : 0 ≤ y ∧ y ≤ 1000000) (hz : 0 ≤ z ∧ z ≤ 1000000) (st : List Cell) : callF sm_law_far [.p q.enc, .p (T3 x y z)] st = .ok (.p (.bl (q.ev (ans (x * 6000) (y * 6000) (z * 6000))))) st := by
  refine Pu.call2 (Pu.of2 ?_) st
  have m : ∀ {v : Int}, 0 ≤ v ∧ v ≤ 1000000 → mulOk v 6000 = true ∧ Sm (v * 6000) := fun hv => ⟨mulOk_of (Sm.small (by omega)) (Sm.small (by omega)), Sm.small (by omega)⟩
  have t := fun st => law_truth_ok 12 q h.1 (by have := h.2.1; omega) (m hx).2 (m hy).2 (m hz).2 st
  simp [sm_law_far, runF_e, (m hx).1, (m hy).1, (m hz).1, t]
end YS

/-! twins -/
namespace YS
open PySem PySem.Spec PyProof.Rows L2 Y YZ
def tup_WAYS : P := .tup [.str "heard", .str "counted", .str "two-way", .str "marked"]
def sm_need_way : FM := runF 1 1 (sIf (mOrT (mNotT (mTru (mIsi "str" (mVar 0)))) (mTst (mBin (vInB true) (mVar 0) (mC tup_WAYS)))) sNo sNx)
def sm_are_counts : FM := runF 1 1 (sSeq (sTry0 (sExpr (mCallF sm_need_counts (mCons (mVar 0) mNil))))
    (sRet (mCallV (vAnyG fun bs => bs.any id) (mCons (mVar 0) mNil))))
def sm_Twins_init : FM := runF 4 4 (sSeq (sExpr (mCallF sm_need_way (mCons (mVar 1) mNil)))
    (sSeq (sIf (mOrT (mNotT (mTru (mCallF sm_are_counts (mCons (mVar 2) mNil)))) (mNotT (mTru (mCallF sm_are_counts (mCons (mVar 3) mNil))))) sNo sNx)
    (sSeq (sSetF [(11, 0)] (mVar 0) (mVar 1))
    (sSeq (sSetF [(11, 1)] (mVar 0) (mVar 2))
    (sSeq (sSetF [(11, 2)] (mVar 0) (mVar 3))
    (sSetF [(11, 3)] (mVar 0) (mTup (mCons (mVar 1) (mCons (mVar 2) (mCons (mVar 3) mNil))))))))))
def sm_letters_seen : FM := runF 1 2 (sRet (mCallV vTupOf (mCons (mLc (mSrc (mVar 0)) (.nm 1) [1] mYes (mCallV vInt (mCons (mBin vGt (mVar 1) (mC (.int 0))) mNil)) finP) mNil)))
def sm_multiple_of : FM := runF 2 5 (sSeq (sSet 2 (mLc (mZipA (mVar 0) (mVar 1)) (.tp [(.nm 3), (.nm 4)]) [3, 4] (mTst (mBin vGt (mVar 3) (mC (.int 0)))) (mBin vFdv (mVar 4) (mVar 3)) finP))
    (sSeq (sIf (mOrT (mTst (mBin (vEqB false) (mVar 2) (mLst mNil))) (mTst (mBin vLt (mBin vIx (mVar 2) (mC (.int 0))) (mC (.int 2))))) (sRet (mC .non)) sNx)
    (sRet (mIfE (mTst (mBin (vEqB false) (mLc (mSrc (mVar 0)) (.nm 3) [3] mYes (mBin vMulI (mVar 3) (mBin vIx (mVar 2) (mC (.int 0)))) finP) (mCallV vLstOf (mCons (mVar 1) mNil)))) (mBin vIx (mVar 2) (mC (.int 0))) (mC .non)))))
def sm_Twins_are_multiples : FM := runF 1 1 (sRet (mBin (vIsN true) (mCallF sm_multiple_of (mCons (mFld [(11, 1)] (mVar 0)) (mCons (mFld [(11, 2)] (mVar 0)) mNil))) (mC .non)))
def sm_Twins_holds : FM := runF 2 2 (sSeq (sIf (mTst (mBin (vEqB false) (mMeth 0 sm_Question_answer (mVar 1) (mCons (mFld [(11, 1)] (mVar 0)) mNil)) (mMeth 0 sm_Question_answer (mVar 1) (mCons (mFld [(11, 2)] (mVar 0)) mNil)))) (sRet (mC (.bl false))) sNx)
    (sSeq (sIf (mTst (mBin (vEqB false) (mFld [(11, 0)] (mVar 0)) (mC (.str "heard")))) (sRet (mBin (vEqB false) (mCallF sm_letters_seen (mCons (mFld [(11, 1)] (mVar 0)) mNil)) (mCallF sm_letters_seen (mCons (mFld [(11, 2)] (mVar 0)) mNil)))) sNx)
    (sRet (mAndV (mBin (vEqB true) (mFld [(11, 0)] (mVar 0)) (mC (.str "marked"))) (mMeth 11 sm_Twins_are_multiples (mVar 0) mNil)))))
def sm_law_ways : FM := runF 0 0 (sRet (mLst (mCons (mC (.str "heard")) (mCons (mC (.str "counted")) (mCons (mC (.str "two-way")) (mCons (mC (.str "marked")) mNil))))))
def sm_law_is_multiple : FM := runF 2 6 (sSeq (sSet 2 (mBin vIx (mLc (mRng1 (mC (.int 3))) (.nm 4) [4] (mTst (mBin vGt (mBin vIx (mVar 0) (mVar 4)) (mC (.int 0)))) (mVar 4) finP) (mC (.int 0))))
    (sSeq (sSet 3 (mBin vFdv (mBin vIx (mVar 1) (mVar 2)) (mBin vIx (mVar 0) (mVar 2))))
    (sRet (mAndV (mBin vGt (mVar 3) (mC (.int 1))) (mBin (vEqB false) (mCallV vTupOf (mCons (mLc (mSrc (mVar 0)) (.nm 5) [5] mYes (mBin vMulI (mVar 5) (mVar 3)) finP) mNil)) (mVar 1))))))

inductive Wy where
  | heard | counted | two | marked
def Wy.s : Wy → Str
  | .heard => Str.ofString "heard"
  | .counted => Str.ofString "counted"
  | .two => Str.ofString "two-way"
  | .marked => Str.ofString "marked"
theorem need_way_ok (w : Wy) (st : List Cell) : callF sm_need_way [.p (.str w.s)] st = .ok (.p .non) st := by
  refine Pu.call1 (Pu.of1 ?_) st
  cases w <;> simp [sm_need_way, runF_e, tup_WAYS, Wy.s]
theorem law_ways_ok (st : List Cell) : callF sm_law_ways [] st = .ok (.p (.lst [.str (Str.ofString "heard"), .str (Str.ofString "counted"), .str (Str.ofString "two-way"), .str (Str.ofString "marked")])) st := by
  refine Pu.call (xs := []) ?_ st
  show Gv (sm_law_ways [] []) _
  simp [sm_law_ways, runF_e]
/-- counts of at least one node -/
def Cts (x y z : Int) : Prop := 0 ≤ x ∧ 0 ≤ y ∧ 0 ≤ z ∧ ¬ (x = 0 ∧ y = 0 ∧ z = 0)
theorem are_counts_ok {x y z : Int} (h : Cts x y z) (st : List Cell) : callF sm_are_counts [.p (T3 x y z)] st = .ok (.p (.bl true)) st := by
  refine Pu.call1 (Pu.of1 ?_) st
  obtain ⟨h1, h2, h3, h4⟩ := h
  simp [sm_are_counts, runF_e, need_counts_ok h1 h2 h3, sTry0_e]
  omega
def tob (w : Wy) (x y z u v t : Int) : P := .obj 11 [.str w.s, T3 x y z, T3 u v t, .tup [.str w.s, T3 x y z, T3 u v t]]
theorem twins_make (w : Wy) {x y z u v t : Int} (h : Cts x y z) (h2 : Cts u v t) (st : List Cell) : makeF 11 4 sm_Twins_init [.p (.str w.s), .p (T3 x y z), .p (T3 u v t)] st = .ok (.p (tob w x y z u v t)) st := by
  refine makeF3 (m := [.str w.s, T3 x y z, T3 u v t, .tup [.str w.s, T3 x y z, T3 u v t]]) ?_ rfl st
  simp [sm_Twins_init, runF_e, need_way_ok, are_counts_ok h, are_counts_ok h2]
theorem letters_seen3 (x y z : Int) (st : List Cell) : callF sm_letters_seen [.p (T3 x y z)] st = .ok (.p (T3 (fl x) (fl y) (fl z))) st := by
  refine Pu.call1 (Pu.of1 ?_) st
  simp [sm_letters_seen, runF_e, fl]
def fac (x y z u v t : Int) : Int := if 0 < x then u / x else if 0 < y then v / y else t / z
/-- a multiple, from twice on -/
def mult (x y z u v t : Int) : Bool := decide (2 ≤ fac x y z u v t) && (x * fac x y z u v t == u && (y * fac x y z u v t == v && z * fac x y z u v t == t))
def BB : Int := 10000000000000000000000000000000000000000
def Lo (x : Int) : Prop := 0 ≤ x ∧ x ≤ 10000000000000000000000000000000000000000
theorem Lo.sm {x : Int} (h : Lo x) : Sm x := Sm.lt 200 (by have : (2:Nat)^200 = 1606938044258990275541962092341162602522202993782792835301376 := rfl; have := h.1; have := h.2; omega) (by decide)
theorem Lo.log {x : Int} (h : Lo x) : x.natAbs.log2 < 9000 := Nat.lt_trans (log2_lt (k := 200) (by have : (2:Nat)^200 = 1606938044258990275541962092341162602522202993782792835301376 := rfl; have := h.1; have := h.2; omega) (by decide)) (by decide)
theorem Lo.div {x u : Int} (h : Lo x) (h2 : Lo u) : Lo (u / x) := ⟨Int.ediv_nonneg h2.1 h.1, Int.le_trans (Int.ediv_le_self _ h2.1) h2.2⟩
theorem multiple_of_ok {x y z u v t : Int} (h : Cts x y z) (hx : Lo x) (hy : Lo y) (hz : Lo z) (hu : Lo u) (hv : Lo v) (ht : Lo t) (st : List Cell) :
    callF sm_multiple_of [.p (T3 x y z), .p (T3 u v t)] st = .ok (.p (if mult x y z u v t = true then .int (fac x y z u v t) else .non)) st := by
  refine Pu.call2 (Pu.of2 ?_) st
  have lx := hx.log
  have ly := hy.log
  have lz := hz.log
  have mo : ∀ {a b : Int}, Lo a → Lo b → mulOk a b = true := fun ha hb => mulOk_of ha.sm hb.sm
  obtain ⟨h1, h2, h3, h4⟩ := h
  by_cases c1 : 0 < x
  · have ld := hx.div hu
    by_cases c2 : 0 < y <;> by_cases c3 : 0 < z <;> by_cases c4 : 2 ≤ u / x <;> simp [sm_multiple_of, runF_e, c1, c2, c3, c4, lx, ly, lz, vEqB_data, mo hx ld, mo hy ld, mo hz ld, mult, fac]
    all_goals omega
  · by_cases c2 : 0 < y
    · have ld := hy.div hv
      by_cases c3 : 0 < z <;> by_cases c4 : 2 ≤ v / y <;> simp [sm_multiple_of, runF_e, c1, c2, c3, c4, lx, ly, lz, vEqB_data, mo hx ld, mo hy ld, mo hz ld, mult, fac]
      all_goals omega
    · have c3 : 0 < z := by omega
      have ld := hz.div ht
      by_cases c4 : 2 ≤ t / z <;> simp [sm_multiple_of, runF_e, c1, c2, c3, c4, lx, ly, lz, vEqB_data, mo hx ld, mo hy ld, mo hz ld, mult, fac]
      all_goals omega
theorem law_is_multiple_ok {x y z u v t : Int} (h : Cts x y z) (hx : Lo x) (hy : Lo y) (hz : Lo z) (hu : Lo u) (hv : Lo v) (ht : Lo t) (st : List Cell) :
    callF sm_law_is_multiple [.p (T3 x y z), .p (T3 u v t)] st = .ok (.p (.bl (mult x y z u v t))) st := by
  refine Pu.call2 (Pu.of2 ?_) st
  have lx := hx.log
  have ly := hy.log
  have lz := hz.log
  have r3 : rngL 0 3 = [.p (.int 0), .p (.int 1), .p (.int 2)] := rfl
  have mo : ∀ {a b : Int}, Lo a → Lo b → mulOk a b = true := fun ha hb => mulOk_of ha.sm hb.sm
  obtain ⟨h1, h2, h3, h4⟩ := h
  by_cases c1 : 0 < x
  · have ld := hx.div hu
    by_cases c2 : 0 < y <;> by_cases c3 : 0 < z <;> by_cases c4 : 1 < u / x <;> simp [sm_law_is_multiple, runF_e, r3, c1, c2, c3, c4, lx, ly, lz, vEqB_data, mo hx ld, mo hy ld, mo hz ld, mult, fac]
    all_goals omega
  · by_cases c2 : 0 < y
    · have ld := hy.div hv
      by_cases c3 : 0 < z <;> by_cases c4 : 1 < v / y <;> simp [sm_law_is_multiple, runF_e, r3, c1, c2, c3, c4, lx, ly, lz, vEqB_data, mo hx ld, mo hy ld, mo hz ld, mult, fac]
      all_goals omega
    · have c3 : 0 < z := by omega
      have ld := hz.div ht
      by_cases c4 : 1 < t / z <;> simp [sm_law_is_multiple, runF_e, r3, c1, c2, c3, c4, lx, ly, lz, vEqB_data, mo hx ld, mo hy ld, mo hz ld, mult, fac]
      all_goals omega
def fits (w : Wy) (x y z u v t : Int) : Bool := match w with
  | .heard => fl x == fl u && (fl y == fl v && fl z == fl t)
  | .marked => false
  | _ => mult x y z u v t
/-- whether twins part a question -/
def hold (w : Wy) (q : Tr) (x y z u v t : Int) : Bool := (!(q.ev (ans x y z) == q.ev (ans u v t))) && fits w x y z u v t
theorem twins_holds_ok (w : Wy) {q : Tr} (hq : q.fit) {x y z u v t : Int} (h : Cts x y z) (h' : Cts u v t) (hx : Lo x) (hy : Lo y) (hz : Lo z) (hu : Lo u) (hv : Lo v) (ht : Lo t) (st : List Cell) :
    callF sm_Twins_holds [.p (tob w x y z u v t), .p (qob q)] st = .ok (.p (.bl (hold w q x y z u v t))) st := by
  refine Pu.call2 (Pu.of2 ?_) st
  have a1 := answer_ok hq hx.sm hy.sm hz.sm hx.1 hy.1 hz.1
  have a2 := answer_ok hq hu.sm hv.sm ht.sm hu.1 hv.1 ht.1
  have c1 : ∀ st, clsOf st (.p (qob q)) = some 0 := fun _ => rfl
  have c2 : ∀ st, clsOf st (.p (tob w x y z u v t)) = some 11 := fun _ => rfl
  have am : ∀ st, callF sm_Twins_are_multiples [.p (tob w x y z u v t)] st = .ok (.p (.bl (mult x y z u v t))) st := by
    intro st
    refine Pu.call1 (Pu.of1 ?_) st
    rw [sm_Twins_are_multiples, runF_e]
    unfold tob
    by_cases hm : mult x y z u v t = true <;> simp [multiple_of_ok h hx hy hz hu hv ht, hm]
  have f1 : ∀ st, fldR [(11, 1)] (.p (tob w x y z u v t)) st = .ok (.p (T3 x y z)) st := fun st => by unfold tob; simp
  have f2 : ∀ st, fldR [(11, 2)] (.p (tob w x y z u v t)) st = .ok (.p (T3 u v t)) st := fun st => by unfold tob; simp
  have f0 : ∀ st, fldR [(11, 0)] (.p (tob w x y z u v t)) st = .ok (.p (.str w.s)) st := fun st => by unfold tob; simp
  by_cases he : q.ev (ans x y z) = q.ev (ans u v t)
  · cases w <;> simp [sm_Twins_holds, runF_e, f0, f1, f2, c1, a1, a2, he, hold, fits]
  · cases w <;> simp [sm_Twins_holds, runF_e, f0, f1, f2, c1, c2, a1, a2, he, hold, fits, Wy.s, letters_seen3, vEqB_data, am]
end YS

/-! ways and counts, good and odd ones; twins made or refused -/
namespace YS
open PySem PySem.Spec PyProof.Rows L2 Y YZ
def sm_law_is_number : FM := runF 3 3 (sRet (mAndV (mIsi "int" (mVar 0)) (mAndV (mNotV (mIsi "bool" (mVar 0))) (mChain vLe vLe (mVar 1) (mVar 0) (mVar 2)))))
def sm_law_are_counts : FM := runF 1 2 (sSeq (sIf (mOrT (mNotT (mTru (mIsi "tuple" (mVar 0)))) (mTst (mBin (vEqB true) (mCallV vLen (mCons (mVar 0) mNil)) (mC (.int 3))))) (sRet (mC (.bl false))) sNx)
    (sRet (mAndV (mCallV (vAnyG fun bs => bs.all id) (mCons (mLc (mSrc (mVar 0)) (.nm 1) [1] mYes (mCallF sm_law_is_number (mCons (mVar 1) (mCons (mC (.int 0)) (mCons (mBin vPow (mC (.int 10)) (mC (.int 40))) mNil)))) finP) mNil)) (mBin (vEqB true) (mVar 0) (mTup (mCons (mC (.int 0)) (mCons (mC (.int 0)) (mCons (mC (.int 0)) mNil))))))))
def sm_need_way_v1 : FM := runX 1 1 (sIf (mOrT (mNotT (mTru (mIsi "str" (mVar 0)))) (mTst (mBin (vInB true) (mVar 0) (mC tup_WAYS)))) (sRaise1 22 (mVar 0) "InvalidWay") sNx)
def sm_need_counts_v1 : FM := runX 1 2 (sSeq (sIf (mOrT (mNotT (mTru (mIsi "tuple" (mVar 0)))) (mTst (mBin (vEqB true) (mCallV vLen (mCons (mVar 0) mNil)) (mC (.int 3))))) (sRaise0 28 "InvalidCounts") sNx)
    (sIf (mNotT (mTru (mCallV (vAnyG fun bs => bs.all id) (mCons (mLc (mSrc (mVar 0)) (.nm 1) [1] mYes (mAndV (mCallF sm_is_number (mCons (mVar 1) mNil)) (mBin vGe (mVar 1) (mC (.int 0)))) finP) mNil)))) (sRaise0 28 "InvalidCounts") sNx))
def sm_are_counts_v1 : FM := runF 1 1 (sSeq (sTryC [(28, true)] (sExpr (mCallX sm_need_counts_v1 (mCons (mVar 0) mNil))) (.bl false))
    (sRet (mCallV (vAnyG fun bs => bs.any id) (mCons (mVar 0) mNil))))
def sm_Twins_init_v1 : FM := runX 4 4 (sSeq (sExpr (mCallX sm_need_way_v1 (mCons (mVar 1) mNil)))
    (sSeq (sIf (mOrT (mNotT (mTru (mCallF sm_are_counts_v1 (mCons (mVar 2) mNil)))) (mNotT (mTru (mCallF sm_are_counts_v1 (mCons (mVar 3) mNil))))) (sRaise0 28 "InvalidCounts") sNx)
    (sSeq (sSetF [(11, 0)] (mVar 0) (mVar 1))
    (sSeq (sSetF [(11, 1)] (mVar 0) (mVar 2))
    (sSeq (sSetF [(11, 2)] (mVar 0) (mVar 3))
    (sSetF [(11, 3)] (mVar 0) (mTup (mCons (mVar 1) (mCons (mVar 2) (mCons (mVar 3) mNil))))))))))
def sm_Twins_counts : FM := runF 1 1 (sRet (mTup (mCons (mFld [(11, 1)] (mVar 0)) (mCons (mFld [(11, 2)] (mVar 0)) mNil))))
def sm_law_bad_way : FM := runF 1 1 (sRet (mCallF sm_law_of (mCons (mVar 0) (mCons (mLst (mCons (mC (.str "")) (mCons (mC (.str "Heard")) (mCons (mC .non) (mCons (mC (.int 3)) (mCons (mC (.str "two way")) (mCons (mTup (mCons (mC (.str "heard")) mNil)) (mCons (mC (.bl true)) (mCons (mLst (mCons (mC (.str "counted")) mNil)) mNil))))))))) mNil))))
def sm_Twins_way : FM := runF 1 1 (sRet (mFld [(11, 0)] (mVar 0)))
def sm_Twins_eq : FM := runF 2 2 (sRet (mAndV (mIsO 11 [] (mVar 1)) (mBin (vEqB false) (mFld [(11, 3)] (mVar 0)) (mFld [(11, 3)] (mVar 1)))))
def sm_Twins_repr : FM := runF 1 1 (sRet (jsF [(mC (.str "Twins(")), (mFmt (mFld [(11, 0)] (mVar 0))), (mC (.str ")"))] Str.empty))

/-- odd ways -/
def badW : List P := [.str (Str.ofString ""), .str (Str.ofString "Heard"), .non, .int 3, .str (Str.ofString "two way"), .tup [.str (Str.ofString "heard")], .bl true, .lst [.str (Str.ofString "counted")]]
theorem need_way_x (w : Wy) (st : List Cell) : callF sm_need_way_v1 [.p (.str w.s)] st = .ok (.p .non) st := by
  refine Pu.call1 (Pu.of1 ?_) st
  cases w <;> simp [sm_need_way_v1, runX_e, tup_WAYS, Wy.s]
theorem need_way_bad {x : P} (h : x ∈ badW) (st : List Cell) : callF sm_need_way_v1 [.p x] st = .exc ⟨22, [x, .str "InvalidWay"]⟩ st := by
  refine Ge.call1 ?_ st
  simp only [badW, List.mem_cons, List.not_mem_nil, or_false] at h
  rcases h with rfl | rfl | rfl | rfl | rfl | rfl | rfl | rfl <;> simp [sm_need_way_v1, runX_e, tup_WAYS]
def badC : List P := [.non, .tup [.int 1, .int 0], .lst [.int 1, .int 0, .int 0], .tup [.int 1, .int 0, .bl true], .tup [.int 1, .int (-1), .int 0], .int 3, .tup [.str (Str.ofString "1"), .int 0, .int 0]]
/-- counts, good or not -/
inductive CV : P → Bool → Prop
  | good {x y z : Int} (h : Cts x y z) (hx : Lo x) (hy : Lo y) (hz : Lo z) : CV (T3 x y z) true
  | zero : CV (T3 0 0 0) false
  | bad {v : P} (h : v ∈ badC) : CV v false
def eInv : Exn := ⟨28, [.str "InvalidCounts"]⟩
theorem need_counts_x {x y z : Int} (hx : 0 ≤ x) (hy : 0 ≤ y) (hz : 0 ≤ z) (st : List Cell) : callF sm_need_counts_v1 [.p (T3 x y z)] st = .ok (.p .non) st := by
  refine Pu.call1 (Pu.of1 ?_) st
  simp [sm_need_counts_v1, runX_e, lcL_cons, lcL_nil, is_number_int, hx, hy, hz]
theorem is_number_bl (b : Bool) (st : List Cell) : callF sm_is_number [.p (.bl b)] st = .ok (.p (.bl false)) st := by
  refine Pu.call1 (Pu.of1 ?_) st
  simp [sm_is_number, runF_e]
theorem is_number_str (b : Str) (st : List Cell) : callF sm_is_number [.p (.str b)] st = .ok (.p (.bl false)) st := by
  refine Pu.call1 (Pu.of1 ?_) st
  simp [sm_is_number, runF_e]
theorem is_number_non (st : List Cell) : callF sm_is_number [.p .non] st = .ok (.p (.bl false)) st := by
  refine Pu.call1 (Pu.of1 ?_) st
  simp [sm_is_number, runF_e]
theorem need_counts_bad {v : P} (h : v ∈ badC) (st : List Cell) : callF sm_need_counts_v1 [.p v] st = .exc eInv st := by
  refine Ge.call1 ?_ st
  simp only [badC, List.mem_cons, List.not_mem_nil, or_false] at h
  rcases h with rfl | rfl | rfl | rfl | rfl | rfl | rfl <;> simp [sm_need_counts_v1, runX_e, lcL_cons, lcL_nil, is_number_int, is_number_bl, is_number_str, eInv]
theorem are_counts_x {v : P} {k : Bool} (h : CV v k) (st : List Cell) : callF sm_are_counts_v1 [.p v] st = .ok (.p (.bl k)) st := by
  cases h with
  | @good x y z h hx hy hz =>
    refine Pu.call1 (Pu.of1 ?_) st
    obtain ⟨h1, h2, h3, h4⟩ := h
    simp [sm_are_counts_v1, runF_e, need_counts_x h1 h2 h3]
    omega
  | zero =>
    refine Pu.call1 (Pu.of1 ?_) st
    have e := fun st => need_counts_x (x := 0) (y := 0) (z := 0) (by decide) (by decide) (by decide) st
    simp [sm_are_counts_v1, runF_e, e]
  | bad h =>
    refine Pu.call1 (Pu.of1 ?_) st
    simp [sm_are_counts_v1, runF_e, need_counts_bad h, eInv]
theorem law_is_number_int {i a b : Int} (st : List Cell) : callF sm_law_is_number [.p (.int i), .p (.int a), .p (.int b)] st = .ok (.p (.bl (decide (a ≤ i) && decide (i ≤ b)))) st := by
  refine Pu.call3 (Pu.of3 ?_) st
  by_cases h : a ≤ i <;> simp [sm_law_is_number, runF_e, h]
theorem law_is_number_bl {i : Bool} {a b : Int} (st : List Cell) : callF sm_law_is_number [.p (.bl i), .p (.int a), .p (.int b)] st = .ok (.p (.bl false)) st := by
  refine Pu.call3 (Pu.of3 ?_) st
  simp [sm_law_is_number, runF_e]
theorem law_is_number_str {i : Str} {a b : Int} (st : List Cell) : callF sm_law_is_number [.p (.str i), .p (.int a), .p (.int b)] st = .ok (.p (.bl false)) st := by
  refine Pu.call3 (Pu.of3 ?_) st
  simp [sm_law_is_number, runF_e]
theorem law_are_counts_ok {v : P} {k : Bool} (h : CV v k) (st : List Cell) : callF sm_law_are_counts [.p v] st = .ok (.p (.bl k)) st := by
  refine Pu.call1 (Pu.of1 ?_) st
  cases h with
  | @good x y z h hx hy hz =>
    obtain ⟨h1, h2, h3, h4⟩ := h
    have := hx.2
    have := hy.2
    have := hz.2
    simp [sm_law_are_counts, runF_e, lcL_cons, lcL_nil, law_is_number_int, h1, h2, h3, hx.2, hy.2, hz.2, vEqB_data]
    omega
  | zero => simp [sm_law_are_counts, runF_e, lcL_cons, lcL_nil, law_is_number_int, vEqB_data]
  | bad h =>
    simp only [badC, List.mem_cons, List.not_mem_nil, or_false] at h
    rcases h with rfl | rfl | rfl | rfl | rfl | rfl | rfl <;> simp [sm_law_are_counts, runF_e, lcL_cons, lcL_nil, law_is_number_int, law_is_number_bl, law_is_number_str, vEqB_data]
/-- twins as an object -/
def tobV (w : Wy) (a b : P) : P := .obj 11 [.str w.s, a, b, .tup [.str w.s, a, b]]
theorem twins_x (w : Wy) {a b : P} (ha : CV a true) (hb : CV b true) (st : List Cell) : makeX 11 4 sm_Twins_init_v1 [.p (.str w.s), .p a, .p b] st = .ok (.p (tobV w a b)) st := by
  refine makeX_pure (xs := [.str w.s, a, b]) (m := [.str w.s, a, b, .tup [.str w.s, a, b]]) ?_ rfl st
  simp [sm_Twins_init_v1, runX_e, need_way_x, are_counts_x ha, are_counts_x hb]
theorem twins_xF (w : Wy) {a b : P} (ha : CV a true) (hb : CV b true) (st : List Cell) : makeF 11 4 (noxF sm_Twins_init_v1) [.p (.str w.s), .p a, .p b] st = .ok (.p (tobV w a b)) st := by
  refine makeF3 (m := [.str w.s, a, b, .tup [.str w.s, a, b]]) ?_ rfl st
  simp [sm_Twins_init_v1, runX_e, need_way_x, are_counts_x ha, are_counts_x hb]
theorem twins_inv (w : Wy) {a b : P} {k l : Bool} (ha : CV a k) (hb : CV b l) (h : (k && l) = false) (st : List Cell) : makeX 11 4 sm_Twins_init_v1 [.p (.str w.s), .p a, .p b] st = .exc eInv st := by
  refine makeX_exc (xs := [.str w.s, a, b]) ?_ st
  refine ⟨.ins 11 [], [], ?_⟩
  cases k <;> cases l
  case true.true => cases h
  all_goals simp [sm_Twins_init_v1, runX_e, need_way_x, are_counts_x ha, are_counts_x hb, eInv]
theorem twins_bad {x : P} (hx : x ∈ badW) (a b : P) (st : List Cell) : makeX 11 4 sm_Twins_init_v1 [.p x, .p a, .p b] st = .exc ⟨22, [x, .str "InvalidWay"]⟩ st := by
  refine makeX_exc (xs := [x, a, b]) ⟨.ins 11 [], [], ?_⟩ st
  simp [sm_Twins_init_v1, runX_e, need_way_bad hx]
theorem twins_counts_ok (w : Wy) (a b : P) (st : List Cell) : callF sm_Twins_counts [.p (tobV w a b)] st = .ok (.p (.tup [a, b])) st := by
  refine Pu.call1 (Pu.of1 ?_) st
  simp [sm_Twins_counts, runF_e, tobV]
theorem twins_way_ok (w : Wy) (a b : P) (st : List Cell) : callF sm_Twins_way [.p (tobV w a b)] st = .ok (.p (.str w.s)) st := by
  refine Pu.call1 (Pu.of1 ?_) st
  simp [sm_Twins_way, runF_e, tobV]
theorem CV.okP {a : P} {k : Bool} (h : CV a k) : okP 63 a = true := by
  cases h with
  | good => simp
  | zero => simp
  | bad h =>
    simp only [badC, List.mem_cons, List.not_mem_nil, or_false] at h
    rcases h with rfl | rfl | rfl | rfl | rfl | rfl | rfl <;> simp
theorem CV.dat {a : P} {k : Bool} (h : CV a k) : datP 9 a = true := by
  cases h with
  | good => simp [datP]
  | zero => simp [datP]
  | bad h =>
    simp only [badC, List.mem_cons, List.not_mem_nil, or_false] at h
    rcases h with rfl | rfl | rfl | rfl | rfl | rfl | rfl <;> simp [datP]
theorem twins_eq_ok (w w' : Wy) {a b c d : P} {k1 k2 k3 k4 : Bool} (h1 : CV a k1) (h2 : CV b k2) (h3 : CV c k3) (h4 : CV d k4) (st : List Cell) : callF sm_Twins_eq [.p (tobV w a b), .p (tobV w' c d)] st = .ok (.p (.bl (w.s == w'.s && (pEq a c && pEq b d)))) st := by
  refine Pu.call2 (Pu.of2 ?_) st
  have o1 : okP 64 (.tup [.str w.s, a, b]) = true := by cases w <;> simp [Wy.s, h1.okP, h2.okP]
  have o2 : okP 64 (.tup [.str w'.s, c, d]) = true := by cases w' <;> simp [Wy.s, h3.okP, h4.okP]
  simp [sm_Twins_eq, runF_e, tobV, vEqB_data o1 o2]
theorem twins_eq_tup (w : Wy) (a b : P) (l : List P) (st : List Cell) : callF sm_Twins_eq [.p (tobV w a b), .p (.tup l)] st = .ok (.p (.bl false)) st := by
  refine Pu.call2 (Pu.of2 ?_) st
  simp [sm_Twins_eq, runF_e, tobV]
theorem twins_repr_ok (w : Wy) (a b : P) (st : List Cell) : callF sm_Twins_repr [.p (tobV w a b)] st = .ok (.p (.str (Str.ofString "Twins(" ++ w.s ++ Str.ofString ")"))) st := by
  refine Pu.call1 (Pu.of1 ?_) st
  cases w <;> simp [sm_Twins_repr, runF_e, tobV, Wy.s] <;> exact ⟨by decide, by decide, by decide, by decide, by decide +kernel⟩
theorem law_bad_way_bg : Bg sm_law_bad_way [] fun x => x ∈ badW := by
  intro c hc
  obtain ⟨r, c', e, hc', hr⟩ := (of_bg (l := badW) (by simp [badW]) (by simp [badW])).call1 hc []
  simp only [badW] at e
  simp [sm_law_bad_way, runF_e, e, hc']
  exact hr
end YS

/-! questions made where the making may raise; readings behind counts -/
namespace YS
open PySem PySem.Spec PyProof.Rows L2 Y YZ
def sm_Question_init_v1 : FM := runX 2 2 (sSeq (sIf (mNotT (mTru (mCallF (sm_is_tree 12) (mCons (mVar 1) (mCons (mC (.int 1)) mNil))))) (sRaise0 29 "InvalidQuestion") sNx)
    (sSeq (sIf (mTst (mBin vGt (mCallV vLen (mCons (mCallF (sm_atoms_in 12) (mCons (mVar 1) mNil)) mNil)) (mC (.int 3)))) (sRaise1 30 (mC (.int 3)) "TooMany") sNx)
    (sSeq (sSetF [(0, 0)] (mVar 0) (mVar 1))
    (sSeq (sSetF [(0, 1)] (mVar 0) (mCallF (sm_atoms_in 12) (mCons (mVar 1) mNil)))
    (sSetF [(0, 2)] (mVar 0) (mCallF (sm_tree_text 12) (mCons (mVar 1) mNil)))))))
def sm_Reading_question : FM := runF 1 1 (sRet (mFld [(2, 0)] (mVar 0)))
def sm_law_some_counts : FM := runF 1 2 (sRet (mCallV vTupOf (mCons (mLc (mSrc (mC (.str "abc"))) (.nm 1) [1] mYes (mCallF sm_law_of (mCons (mVar 0) (mCons (mLst (mCons (mC (.int 0)) (mCons (mC (.int 1)) (mCons (mCallF sm_law_pull (mCons (mVar 0) (mCons (mC (.int 6)) mNil))) (mCons (mCallF sm_law_pull (mCons (mVar 0) (mCons (mC (.int 40)) mNil))) (mCons (mCallF sm_law_pull (mCons (mVar 0) (mCons (mBin vPow (mC (.int 10)) (mC (.int 30))) mNil))) mNil)))))) mNil))) finP) mNil)))
def sm_Reading_behind : FM := runX 2 5 (sSeq (sExpr (mCallX sm_need_counts_v1 (mCons (mVar 1) mNil)))
    (sSeq (sPar 2 3 (mCons (mMeth 2 sm_Reading_start (mVar 0) mNil) (mCons (mCallV vLstOf (mCons (mVar 1) mNil)) mNil)))
    (sSeq (sWhile 1000 (mTru (mCallV (vAnyG fun bs => bs.any id) (mCons (mVar 3) mNil))) (sSeq (sSet 2 (mMeth 2 sm_Reading_step (mVar 0) (mCons (mVar 2) (mCons (mCallV vTupOf (mCons (mLc (mSrc (mVar 3)) (.nm 4) [4] mYes (mBin vMod (mVar 4) (mC (.int 2))) finP) mNil)) mNil))))
    (sSet 3 (mLc (mSrc (mVar 3)) (.nm 4) [4] mYes (mBin vFdv (mVar 4) (mC (.int 2))) finP))))
    (sRet (mVar 2)))))
def sm_law_places : FM := runF 1 3 (sSeq (sPar 1 2 (mCons (mC (.int 0)) (mCons (mCallV vMaxS (mCons (mVar 0) mNil)) mNil)))
    (sSeq (sWhile 1000 (mTst (mBin vGt (mVar 2) (mC (.int 0)))) (sPar 1 2 (mCons (mBin vAdd (mVar 1) (mC (.int 1))) (mCons (mBin vFdv (mVar 2) (mC (.int 2))) mNil))))
    (sRet (mVar 1))))
def sm_Question_answer_v1 : FM := runX 2 3 (sSeq (sExpr (mCallX sm_need_counts_v1 (mCons (mVar 1) mNil)))
    (sRet (mCallF (sm_joined 12) (mCons (mFld [(0, 0)] (mVar 0)) (mCons (mLc (mSrc (mFld [(0, 1)] (mVar 0))) (.nm 2) [2] mYes (mCallF sm_atom_answer (mCons (mVar 2) (mCons (mVar 1) mNil))) finP) mNil)))))
def sm_Reading_by_letters : FM := runX 2 2 (sRet (mMethX 0 sm_Question_answer_v1 (mFld [(2, 0)] (mVar 0)) (mCons (mBin vIx (mVar 1) (mC (.int 1))) mNil)))

theorem question_make_x {t : Tr} (h : t.fit) (st : List Cell) : makeX 0 3 sm_Question_init_v1 [.p t.enc] st = .ok (.p (qob t)) st := by
  obtain ⟨hg, hd, ha⟩ := h
  refine makeX_pure (xs := [t.enc]) (m := [t.enc, .lst (t.atoms.map Tr.enc), .str (ttext t)]) ?_ rfl st
  simp [sm_Question_init_v1, runX_e, is_tree_ok 12 t 1 hg (by omega) (by omega) (by omega), atoms_in_ok 12 t hg (by omega) hd, (ttext_ok hg (show t.depth ≤ 5 by omega) _).1]
  omega
theorem reading_question_ok (q : Tr) (st : List Cell) : callF sm_Reading_question [.p (rob q)] st = .ok (.p (qob q)) st := by
  refine Pu.call1 (Pu.of1 ?_) st
  simp [sm_Reading_question, runF_e, rob]
theorem answer_x {t : Tr} (h : t.fit) {x y z : Int} (hx : Sm x) (hy : Sm y) (hz : Sm z) (hx0 : 0 ≤ x) (hy0 : 0 ≤ y) (hz0 : 0 ≤ z) (st : List Cell) : callF sm_Question_answer_v1 [.p (qob t), .p (T3 x y z)] st = .ok (.p (.bl (t.ev (ans x y z)))) st := by
  obtain ⟨hg, hd, ha⟩ := h
  refine Pu.call2 (Pu.of2 ?_) st
  simp [sm_Question_answer_v1, runX_e, qob, need_counts_x hx0 hy0 hz0, show t.atoms.length ≤ 1000000 by omega]
  rw [lcL_mapF (fun u => .bl (ans x y z u)) (fun u mu => by
    have := atoms_at 4 t hg hd u mu
    exact ⟨_, put_nm _ _, by simp [atom_answer_ok this.1 this.2 hx hy hz]⟩)]
  simp [joined_ok _ 12 t hg (by omega) hd]
theorem fl_sm (x : Int) : Sm (fl x) ∧ 0 ≤ fl x := by unfold fl; split <;> exact ⟨Sm.small (by decide), by decide⟩
theorem by_letters_ok {q : Tr} (h : q.fit) (x y z : Int) (n : Nat) (st : List Cell) : callF sm_Reading_by_letters [.p (rob q), .p (rstate q x y z n)] st = .ok (.p (.bl (q.ev (ans (fl x) (fl y) (fl z))))) st := by
  refine Pu.call2 (Pu.of2 ?_) st
  have a := fun st => answer_x h (fl_sm x).1 (fl_sm y).1 (fl_sm z).1 (fl_sm x).2 (fl_sm y).2 (fl_sm z).2 st
  simp [sm_Reading_by_letters, runX_e, rob, rstate, clsq, a]
/-! ### how many places -/
def bl (m : Int) : Nat := if m = 0 then 0 else m.natAbs.log2 + 1
theorem bl_le {m : Int} (h : 0 ≤ m) (i : Nat) : bl m ≤ i ↔ m < tw i := by
  have e : m < tw i ↔ m.natAbs < 2 ^ i := by
    have := tw_nat i
    have := tw_pos i
    omega
  rw [e]
  unfold bl
  split
  · rename_i h0
    subst h0
    simp
    exact Nat.pow_pos (by decide)
  · rw [← Nat.log2_lt (by omega)]
    omega
theorem div_z {m : Int} (h : 0 ≤ m) (i : Nat) : m / tw i = 0 ↔ m < tw i := by
  have hp := tw_pos i
  constructor
  · intro e
    have h1 := Int.emod_add_mul_ediv m (tw i)
    have h2 := Int.emod_lt_of_pos m hp
    rw [e, Int.mul_zero] at h1
    omega
  · exact fun e => Int.ediv_eq_zero_of_lt h e
def mx3 (x y z : Int) : Int := maxI [x, y, z]
theorem mx3_le {x y z t : Int} : mx3 x y z < t ↔ x < t ∧ y < t ∧ z < t := by
  show max x (max y z) < t ↔ _
  omega
theorem mx3_pos {x y z : Int} (hx : 0 ≤ x) : 0 ≤ mx3 x y z := by
  have := (mx3_le (x := x) (y := y) (z := z) (t := mx3 x y z + 1)).mp (by omega)
  omega
theorem div_half (m : Int) (i : Nat) : m / tw i / 2 = m / tw (i + 1) := by
  rw [tw_succ, Int.ediv_ediv_of_nonneg (Int.le_of_lt (tw_pos i))]
theorem mod_step' (x : Int) (i : Nat) : x % tw i + x / tw i % 2 * tw i = x % tw (i + 1) := by
  have hp := tw_pos i
  have h1 := Int.emod_add_mul_ediv x (tw i * 2)
  have h2 := Int.emod_add_mul_ediv x (tw i)
  have h3 : x / (tw i * 2) = x / tw i / 2 := (Int.ediv_ediv_of_nonneg (Int.le_of_lt hp)).symm
  rw [tw_succ]
  rw [h3] at h1
  generalize x % (tw i * 2) = r at *
  generalize x / tw i = q at *
  generalize x % tw i = m at *
  generalize tw i = p at *
  have h6 := Int.emod_add_mul_ediv q 2
  generalize q / 2 = u at *
  generalize q % 2 = v at *
  grind
def plc (x y z : Int) : Nat := bl (mx3 x y z)
theorem law_places_ok {x y z : Int} (hx : 0 ≤ x) (hy : 0 ≤ y) (hz : 0 ≤ z) (hp : plc x y z ≤ 200) (st : List Cell) : callF sm_law_places [.p (T3 x y z)] st = .ok (.p (.int (plc x y z : Nat))) st := by
  refine Pu.call1 (Pu.of1 ?_) st
  have m0 := mx3_pos (x := x) (y := y) (z := z) hx
  have hpl : plc x y z = bl (mx3 x y z) := rfl
  simp [sm_law_places, runF_e]
  rw [← mx3]
  refine whileF_rule (fun r => Gv (runR (r.then _)) _) (fun m σ st => ∃ i k : Nat, i + m = plc x y z ∧ σ = [some (.p (T3 x y z)), some (.p (.int (i : Nat))), some (.p (.int (mx3 x y z / tw i)))] ∧ st = []) (plc x y z) (by omega) ⟨0, 0, by omega, by rw [tw_zero, Int.ediv_one]; rfl, rfl⟩ ?_
  rintro m σ st ⟨i, k, hi, rfl, rfl⟩
  have hb := bl_le m0 i
  have hd := div_z m0 i
  have hg : 0 ≤ mx3 x y z / tw i := Int.ediv_nonneg m0 (Int.le_of_lt (tw_pos i))
  rcases Nat.eq_zero_or_pos m with rfl | hm
  · refine .inl ⟨[], ?_, ?_⟩
    · simp
      omega
    · simp
      omega
  · refine .inr ⟨[], m - 1, ?_, by omega, ?_⟩
    · simp
      omega
    · have e := div_half (mx3 x y z) i
      generalize mx3 x y z / tw i = d at *
      generalize hk : (i : Int) = j at *
      conv => arg 3; simp [l2]
      rw [e]
      exact ⟨i + 1, 0, by omega, by rw [Int.natCast_add, hk]; rfl, rfl⟩
theorem behind_ok {q : Tr} (h : q.fit) {x y z : Int} (hx : 0 ≤ x) (hy : 0 ≤ y) (hz : 0 ≤ z) (hp : plc x y z ≤ 200) (st : List Cell) : callF sm_Reading_behind [.p (rob q), .p (T3 x y z)] st = .ok (.p (rstate q x y z (plc x y z))) st := by
  refine Pu.call2 (Pu.of2 ?_) st
  have m0 := mx3_pos (x := x) (y := y) (z := z) hx
  have ha := h.2.2
  simp [sm_Reading_behind, runX_e, clsr, start_ok h, need_counts_x hx hy hz]
  refine whileF_rule (fun r => Gv (runRX (r.then _)) _) (fun m σ st => ∃ (i : Nat) (a4 : Option W), i + m = plc x y z ∧ σ = [some (.p (rob q)), some (.p (T3 x y z)), some (.p (rstate q (x % tw i) (y % tw i) (z % tw i) i)), some (.p (.lst [.int (x / tw i), .int (y / tw i), .int (z / tw i)])), a4] ∧ st = []) (plc x y z) (by omega) ⟨0, none, by omega, ?_, rfl⟩ ?_
  · simp [tw_zero, Int.emod_one]
  rintro m σ st ⟨i, a4, hi, rfl, rfl⟩
  have hb := bl_le m0 i
  have hl := mx3_le (x := x) (y := y) (z := z) (t := tw i)
  have dx := div_z hx i
  have dy := div_z hy i
  have dz := div_z hz i
  rcases Nat.eq_zero_or_pos m with rfl | hm
  · have hlt := hl.mp (hb.mp (by unfold plc at hi; omega))
    refine .inl ⟨[], ?_, ?_⟩
    · simp [dx.mpr hlt.1, dy.mpr hlt.2.1, dz.mpr hlt.2.2]
    · obtain rfl : i = plc x y z := by omega
      simp [Int.emod_eq_of_lt hx hlt.1, Int.emod_eq_of_lt hy hlt.2.1, Int.emod_eq_of_lt hz hlt.2.2]
  · have hnot : ¬ (x < tw i ∧ y < tw i ∧ z < tw i) := fun e => by
      have := hb.mpr (hl.mpr e)
      unfold plc at hi
      omega
    refine .inr ⟨[], m - 1, ?_, by omega, ?_⟩
    · simp
      by_cases h1 : x / tw i = 0 <;> by_cases h2 : y / tw i = 0 <;> by_cases h3 : z / tw i = 0 <;> simp [h1, h2, h3]
      exact hnot ⟨dx.mp h1, dy.mp h2, dz.mp h3⟩
    · have p0 := tw_pos i
      have nn : ∀ v : Int, 0 ≤ v % tw i := fun v => Int.emod_nonneg v (by omega)
      have b01 : ∀ v : Int, v / tw i % 2 = 0 ∨ v / tw i % 2 = 1 := fun v => by omega
      have sp := fun st => step_ok h (nn x) (nn y) (nn z) (b01 x) (b01 y) (b01 z) i st
      have e1 := div_half x i
      have e2 := div_half y i
      have e3 := div_half z i
      rw [mod_step', mod_step', mod_step'] at sp
      generalize x / tw i = X at *
      generalize y / tw i = Y at *
      generalize z / tw i = Z at *
      conv => arg 3; simp [l2, lcL_cons, lcL_nil, clsr, sp, e1, e2, e3]
      exact ⟨i + 1, _, by omega, rfl, rfl⟩

def sm_Question_eq : FM := runF 2 2 (sRet (mAndV (mIsO 0 [] (mVar 1)) (mBin (vEqB false) (mFld [(0, 0)] (mVar 0)) (mFld [(0, 0)] (mVar 1)))))
theorem question_eq_self {q : Tr} (h : q.fit) (st : List Cell) : callF sm_Question_eq [.p (qob q), .p (qob q)] st = .ok (.p (.bl true)) st := by
  refine Pu.call2 (Pu.of2 ?_) st
  have e := fun st => vEqB_self (n := false) (okP_enc 63 q (by have := h.2.1; omega)) (st := st)
  simp [sm_Question_eq, runF_e, qob, e]
end YS

namespace K34
open PySem PySem.Spec PyProof.Rows L2 Y YZ YS
def sm_law : FM := runF 1 10 (sSeq (sSet 1 (mCallF sm_law_bag (mCons (mVar 0) mNil)))
    (sSeq (sFor (mRng1 (mC (.int 8))) (.nm 2) (sSeq (sSet 3 (mCallF (sm_law_tree 12) (mCons (mVar 1) (mCons (mC (.int 3)) (mCons (mC (.int 3)) (mCons (mC (.int 9)) mNil))))))
    (sSeq (sSet 4 (mMake 2 2 sm_Reading_init (mCons (mMakeX 0 3 sm_Question_init_v1 (mCons (mVar 3) mNil)) mNil)))
    (sSeq (sIf (mOrT (mNotT (mTru (mCallF (sm_law_same 12) (mCons (mMeth 2 sm_Reading_start (mVar 4) mNil) (mCons (mCallF sm_law_state (mCons (mVar 3) (mCons (mTup (mCons (mC (.int 0)) (mCons (mC (.int 0)) (mCons (mC (.int 0)) mNil)))) (mCons (mC (.int 0)) mNil)))) mNil))))) (mTst (mBin (vEqO 0 sm_Question_eq true) (mProp 2 sm_Reading_question (mVar 4)) (mMakeX 0 3 sm_Question_init_v1 (mCons (mVar 3) mNil))))) (sRet (mC (.bl false))) sNx)
    (sSeq (sFor (mRng1 (mC (.int 4))) (.nm 5) (sSeq (sSet 7 (mCallF sm_law_some_counts (mCons (mVar 1) mNil)))
    (sSeq (sSet 8 (mMethKw 2 (noxF sm_Reading_behind) [0] 1 (mVar 4) (mCons (mVar 7) mNil)))
    (sSeq (sIf (mNotT (mTru (mCallF (sm_law_same 12) (mCons (mVar 8) (mCons (mCallF sm_law_state (mCons (mVar 3) (mCons (mVar 7) (mCons (mCallF sm_law_places (mCons (mVar 7) mNil)) mNil)))) mNil))))) (sRet (mC (.bl false))) sNx)
    (sSeq (sSet 9 (mLst (mCons (mMeth 2 sm_Reading_answer (mVar 4) (mCons (mVar 8) mNil)) (mCons (mMeth 2 sm_Reading_far (mVar 4) (mCons (mVar 8) mNil)) (mCons (mMethX 2 sm_Reading_by_letters (mVar 4) (mCons (mVar 8) mNil)) mNil)))))
    (sIf (mNotT (mTru (mCallF (sm_law_same 12) (mCons (mVar 9) (mCons (mLst (mCons (mCallF (sm_law_truth 12) (mCons (mVar 3) (mCons (mVar 7) mNil))) (mCons (mCallF sm_law_far (mCons (mVar 3) (mCons (mVar 7) mNil))) (mCons (mCallF (sm_law_truth 12) (mCons (mVar 3) (mCons (mCallF sm_law_flags (mCons (mVar 7) mNil)) mNil))) mNil)))) mNil))))) (sRet (mC (.bl false))) sNx))))))
    (sSeq (sSet 6 (mCallF sm_law_of (mCons (mVar 1) (mCons (mLst (mCons (mTup (mCons (mC (.int 1)) (mCons (mC (.int 1)) mNil))) (mCons (mLst (mCons (mC (.int 1)) (mCons (mC (.int 1)) (mCons (mC (.int 1)) mNil)))) (mCons (mC .non) (mCons (mTup (mCons (mC (.int 1)) (mCons (mNeg (mC (.int 1))) (mCons (mC (.int 0)) mNil)))) (mCons (mTup (mCons (mC (.int 0)) (mCons (mC (.int 0)) (mCons (mC (.bl true)) mNil)))) mNil)))))) mNil))))
    (sIf (mTst (mBin (vEqB true) (mTryL [(28, "InvalidCounts", none), (29, "InvalidQuestion", none), (30, "TooMany", some "most")] (mMethX 2 sm_Reading_behind (mVar 4) (mCons (mVar 6) mNil))) (mTup (mCons (mC (.str "InvalidCounts")) (mCons (mC .non) mNil))))) (sRet (mC (.bl false))) sNx)))))))
    (sRet (mBin (vEqB false) (mC (.int 2000)) (mC (.int 2000))))))

/-- a turn of the inner loop -/
def bI : SMm := (sSeq (sSet 7 (mCallF sm_law_some_counts (mCons (mVar 1) mNil)))
    (sSeq (sSet 8 (mMethKw 2 (noxF sm_Reading_behind) [0] 1 (mVar 4) (mCons (mVar 7) mNil)))
    (sSeq (sIf (mNotT (mTru (mCallF (sm_law_same 12) (mCons (mVar 8) (mCons (mCallF sm_law_state (mCons (mVar 3) (mCons (mVar 7) (mCons (mCallF sm_law_places (mCons (mVar 7) mNil)) mNil)))) mNil))))) (sRet (mC (.bl false))) sNx)
    (sSeq (sSet 9 (mLst (mCons (mMeth 2 sm_Reading_answer (mVar 4) (mCons (mVar 8) mNil)) (mCons (mMeth 2 sm_Reading_far (mVar 4) (mCons (mVar 8) mNil)) (mCons (mMethX 2 sm_Reading_by_letters (mVar 4) (mCons (mVar 8) mNil)) mNil)))))
    (sIf (mNotT (mTru (mCallF (sm_law_same 12) (mCons (mVar 9) (mCons (mLst (mCons (mCallF (sm_law_truth 12) (mCons (mVar 3) (mCons (mVar 7) mNil))) (mCons (mCallF sm_law_far (mCons (mVar 3) (mCons (mVar 7) mNil))) (mCons (mCallF (sm_law_truth 12) (mCons (mVar 3) (mCons (mCallF sm_law_flags (mCons (mVar 7) mNil)) mNil))) mNil)))) mNil))))) (sRet (mC (.bl false))) sNx)))))
/-- what stands behind the inner loop -/
def bT : SMm := (sSeq (sSet 6 (mCallF sm_law_of (mCons (mVar 1) (mCons (mLst (mCons (mTup (mCons (mC (.int 1)) (mCons (mC (.int 1)) mNil))) (mCons (mLst (mCons (mC (.int 1)) (mCons (mC (.int 1)) (mCons (mC (.int 1)) mNil)))) (mCons (mC .non) (mCons (mTup (mCons (mC (.int 1)) (mCons (mNeg (mC (.int 1))) (mCons (mC (.int 0)) mNil)))) (mCons (mTup (mCons (mC (.int 0)) (mCons (mC (.int 0)) (mCons (mC (.bl true)) mNil)))) mNil)))))) mNil))))
    (sIf (mTst (mBin (vEqB true) (mTryL [(28, "InvalidCounts", none), (29, "InvalidQuestion", none), (30, "TooMany", some "most")] (mMethX 2 sm_Reading_behind (mVar 4) (mCons (mVar 6) mNil))) (mTup (mCons (mC (.str "InvalidCounts")) (mCons (mC .non) mNil))))) (sRet (mC (.bl false))) sNx))
def sm_law2 : FM := runF 1 10 (sSeq (sSet 1 (mCallF sm_law_bag (mCons (mVar 0) mNil)))
    (sSeq (sFor (mRng1 (mC (.int 8))) (.nm 2) (sSeq (sSet 3 (mCallF (sm_law_tree 12) (mCons (mVar 1) (mCons (mC (.int 3)) (mCons (mC (.int 3)) (mCons (mC (.int 9)) mNil))))))
    (sSeq (sSet 4 (mMake 2 2 sm_Reading_init (mCons (mMakeX 0 3 sm_Question_init_v1 (mCons (mVar 3) mNil)) mNil)))
    (sSeq (sIf (mOrT (mNotT (mTru (mCallF (sm_law_same 12) (mCons (mMeth 2 sm_Reading_start (mVar 4) mNil) (mCons (mCallF sm_law_state (mCons (mVar 3) (mCons (mTup (mCons (mC (.int 0)) (mCons (mC (.int 0)) (mCons (mC (.int 0)) mNil)))) (mCons (mC (.int 0)) mNil)))) mNil))))) (mTst (mBin (vEqO 0 sm_Question_eq true) (mProp 2 sm_Reading_question (mVar 4)) (mMakeX 0 3 sm_Question_init_v1 (mCons (mVar 3) mNil))))) (sRet (mC (.bl false))) sNx)
    (sSeq (sFor (mRng1 (mC (.int 4))) (.nm 5) bI)
    bT)))))
    (sRet (mBin (vEqB false) (mC (.int 2000)) (mC (.int 2000))))))

theorem law_eq : sm_law = sm_law2 := rfl
def Yes (r : Res W) : Prop := ∃ st, r = .ok (.p (.bl true)) st
theorem num5_bg (a b c : Int) : Bg sm_law_of [.lst [.int 0, .int 1, .int a, .int b, .int c]] fun x => ∃ n : Int, x = .int n ∧ (n = 0 ∨ n = 1 ∨ n = a ∨ n = b ∨ n = c) := by
  intro c' hc
  obtain ⟨x, c', l, e, g, hr⟩ := Gb.ex (of_bg (l := [.int 0, .int 1, .int a, .int b, .int c]) (by simp) (by simp) c' hc)
  rw [e, Gb_ok]
  refine ⟨g, ?_⟩
  simp at hr
  rcases hr with rfl | rfl | rfl | rfl | rfl
  · exact ⟨_, rfl, .inl rfl⟩
  · exact ⟨_, rfl, .inr (.inl rfl)⟩
  · exact ⟨_, rfl, .inr (.inr (.inl rfl))⟩
  · exact ⟨_, rfl, .inr (.inr (.inr (.inl rfl)))⟩
  · exact ⟨_, rfl, .inr (.inr (.inr (.inr rfl)))⟩
def Cn (x : Int) : Prop := 0 ≤ x ∧ x ≤ 1000000000000000000000000000000
theorem some_bg : Bg sm_law_some_counts [] fun v => ∃ x y z : Int, v = T3 x y z ∧ Cn x ∧ Cn y ∧ Cn z := by
  intro c hc
  have p6 := pull_bg (n := 6) (by omega) (small_log (by omega) (by omega))
  have p40 := pull_bg (n := 40) (by omega) (small_log (by omega) (by omega))
  have px := pull_bg (n := 1000000000000000000000000000000) (by omega) (by decide)
  obtain ⟨_, c00, e00, hc00, k00, rfl, k00a, k00b⟩ := p6.call1 hc []
  obtain ⟨_, c01, e01, hc01, k01, rfl, k01a, k01b⟩ := p40.call1 hc00 []
  obtain ⟨_, c02, e02, hc02, k02, rfl, k02a, k02b⟩ := px.call1 hc01 []
  obtain ⟨_, c03, e03, hc03, n0, rfl, hn0⟩ := (num5_bg k00 k01 k02).call1 hc02 []
  obtain ⟨_, c10, e10, hc10, k10, rfl, k10a, k10b⟩ := p6.call1 hc03 []
  obtain ⟨_, c11, e11, hc11, k11, rfl, k11a, k11b⟩ := p40.call1 hc10 []
  obtain ⟨_, c12, e12, hc12, k12, rfl, k12a, k12b⟩ := px.call1 hc11 []
  obtain ⟨_, c13, e13, hc13, n1, rfl, hn1⟩ := (num5_bg k10 k11 k12).call1 hc12 []
  obtain ⟨_, c20, e20, hc20, k20, rfl, k20a, k20b⟩ := p6.call1 hc13 []
  obtain ⟨_, c21, e21, hc21, k21, rfl, k21a, k21b⟩ := p40.call1 hc20 []
  obtain ⟨_, c22, e22, hc22, k22, rfl, k22a, k22b⟩ := px.call1 hc21 []
  obtain ⟨_, c23, e23, hc23, n2, rfl, hn2⟩ := (num5_bg k20 k21 k22).call1 hc22 []
  conv => arg 2; simp [sm_law_some_counts, runF_e, lcL_cons, lcL_nil, e00, e01, e02, e03, e10, e11, e12, e13, e20, e21, e22, e23]
  rw [Gb_ok]
  exact ⟨hc23, _, _, _, rfl, by unfold Cn; omega, by unfold Cn; omega, by unfold Cn; omega⟩
theorem tw200 : tw 200 = 1606938044258990275541962092341162602522202993782792835301376 := rfl
theorem cn_plc {x y z : Int} (hx : Cn x) (hy : Cn y) (hz : Cn z) : plc x y z ≤ 200 := by
  have t := tw200
  unfold Cn at hx hy hz
  exact (bl_le (mx3_pos hx.1) 200).mpr (mx3_le.mpr ⟨by omega, by omega, by omega⟩)
theorem cn_sm {x : Int} (h : Cn x) : Sm x ∧ mulOk x 6000 = true ∧ Sm (x * 6000) := by
  have t : (2 : Nat) ^ 200 = 1606938044258990275541962092341162602522202993782792835301376 := rfl
  unfold Cn at h
  have s : Sm x := Sm.lt 200 (by rw [t]; omega) (by decide)
  exact ⟨s, mulOk_of s (Sm.small (by decide)), Sm.lt 200 (by rw [t]; omega) (by decide)⟩
theorem law_far_big {q : Tr} (h : q.fit) {x y z : Int} (hx : Cn x) (hy : Cn y) (hz : Cn z) (st : List Cell) : callF sm_law_far [.p q.enc, .p (T3 x y z)] st = .ok (.p (.bl (q.ev (ans (x * 6000) (y * 6000) (z * 6000))))) st := by
  refine Pu.call2 (Pu.of2 ?_) st
  have t := fun st => law_truth_ok 12 q h.1 (by have := h.2.1; omega) (cn_sm hx).2.2 (cn_sm hy).2.2 (cn_sm hz).2.2 st
  simp [sm_law_far, runF_e, (cn_sm hx).2.1, (cn_sm hy).2.1, (cn_sm hz).2.1, t]
theorem datP_row (x y z : Int) (n : Nat) {t : Tr} (ht : isAt t) : datP 9 (row x y z n t) = true := by
  cases t <;> simp [row, datP]
theorem datP_rstate {q : Tr} (h : q.fit) (x y z : Int) (n : Nat) : datP 11 (rstate q x y z n) = true := by
  have ha := h.2.2
  simp [rstate, datP, show q.atoms.length ≤ 100000 by omega]
  intro t mt
  exact datP_row x y z n (atoms_at 4 q h.1 h.2.1 t mt).1
theorem same_rs {q : Tr} (h : q.fit) (x y z : Int) (n : Nat) (st : List Cell) : callF (sm_law_same 12) [.p (rstate q x y z n), .p (rstate q x y z n)] st = .ok (.p (.bl true)) st := same_refl 11 _ (datP_rstate h x y z n) st
theorem same3 (b c d : Bool) (st : List Cell) : callF (sm_law_same 12) [.p (.lst [.bl b, .bl c, .bl d]), .p (.lst [.bl b, .bl c, .bl d])] st = .ok (.p (.bl true)) st := same_refl 11 _ (by simp [datP]) st
def badB : List P := [.tup [.int 1, .int 1], .lst [.int 1, .int 1, .int 1], .non, .tup [.int 1, .int (-1), .int 0], .tup [.int 0, .int 0, .bl true]]
theorem behind_bad (q : Tr) {v : P} (h : v ∈ badB) (st : List Cell) : callF sm_Reading_behind [.p (rob q), .p v] st = .exc eInv st := by
  have nb : ∀ st, callF sm_need_counts_v1 [.p v] st = .exc eInv st := by
    intro st
    refine Ge.call1 ?_ st
    simp only [badB, List.mem_cons, List.not_mem_nil, or_false] at h
    rcases h with rfl | rfl | rfl | rfl | rfl <;> simp [sm_need_counts_v1, runX_e, lcL_cons, lcL_nil, is_number_int, is_number_bl, is_number_str, eInv]
  refine Ge.call2 ?_ st
  simp [sm_Reading_behind, runX_e, nb]
theorem bad_bg : Bg sm_law_of [.lst badB] fun x => x ∈ badB := of_bg (by simp [badB]) (by simp [badB])
theorem bI_ok (F : SR → Prop) {q : Tr} (h : q.fit) {c : Cell} (hc : GB c) (a0 a2 a5 a6 a7 a8 a9 : Option W) :
    Sq (fun σ st => ∃ c a5 a6 a7 a8 a9, GB c ∧ σ = [a0, some (.r 0), a2, some (.p q.enc), some (.p (rob q)), a5, a6, a7, a8, a9] ∧ st = [c]) F (bI [a0, some (.r 0), a2, some (.p q.enc), some (.p (rob q)), a5, a6, a7, a8, a9] [c]) := by
  obtain ⟨_, c1, e1, hc1, x, y, z, rfl, hx, hy, hz⟩ := some_bg.call0 hc []
  have hp := cn_plc hx hy hz
  have f1 := fun st => behind_ok h hx.1 hy.1 hz.1 hp st
  have f2 := fun st => law_state_ok h (cn_sm hx).1 (cn_sm hy).1 (cn_sm hz).1 hp st
  have f3 := fun st => law_places_ok hx.1 hy.1 hz.1 hp st
  have f4 := fun n st => reading_answer_ok h x y z n st
  have f5 := fun n st => reading_far_ok h x y z n st
  have f6 := fun n st => by_letters_ok h x y z n st
  have f7 := fun st => law_truth_ok 12 q h.1 (by have := h.2.1; omega) (cn_sm hx).1 (cn_sm hy).1 (cn_sm hz).1 st
  have f8 := fun st => law_truth_ok 12 q h.1 (by have := h.2.1; omega) (fl_sm x).1 (fl_sm y).1 (fl_sm z).1 st
  have f9 := fun st => law_far_big h hx hy hz st
  have g1 := fun n st => same_rs h x y z n st
  generalize plc x y z = n at *
  conv => arg 3; simp [bI, e1, f1, f2, f3, f4, f5, f6, f7, f8, f9, g1, same3, clsr, callF_noxF, law_flags3]
  exact ⟨_, _, _, _, _, _, hc1, rfl, rfl⟩
theorem bT_ok (F : SR → Prop) {q : Tr} (h : q.fit) {c : Cell} (hc : GB c) (a0 a2 a5 a6 a7 a8 a9 : Option W) :
    Sq (fun σ st => ∃ c a2 a3 a4 a5 a6 a7 a8 a9, GB c ∧ σ = [a0, some (.r 0), a2, a3, a4, a5, a6, a7, a8, a9] ∧ st = [c]) F (bT [a0, some (.r 0), a2, some (.p q.enc), some (.p (rob q)), a5, a6, a7, a8, a9] [c]) := by
  obtain ⟨v, c1, e1, hc1, hv⟩ := bad_bg.call1 hc []
  have f1 := fun st => behind_bad q hv st
  simp only [badB] at e1
  conv => arg 3; simp [bT, e1, f1, clsr, eInv, List.lookup, vEqB_data]
  exact ⟨_, _, _, _, _, _, _, _, _, hc1, rfl, rfl⟩
theorem plain (ns : List Int) (h : ns.length ≤ 63) : ∃ st, sm_law [.p (.scr ns)] [] = .ok (.p (.bl true)) st := by
  show Yes (sm_law [.p (.scr ns)] [])
  rw [law_eq]
  obtain ⟨c0, e0, hc0⟩ := bag_make ns
  conv => arg 1; simp [sm_law2, runF_e, e0, -forL_cons]
  refine forL_rule (fun r => Yes (runR (r.then _))) (fun i σ st => ∃ c a2 a3 a4 a5 a6 a7 a8 a9, GB c ∧ σ = [some (.p (.scr ns)), some (.r 0), a2, a3, a4, a5, a6, a7, a8, a9] ∧ st = [c]) ⟨c0, _, _, _, _, _, _, _, _, hc0, rfl, rfl⟩ ?_ ?_
  · rintro i w0 σ st _ ⟨c, a2, a3, a4, a5, a6, a7, a8, a9, hc, rfl, rfl⟩
    obtain ⟨r1, c1, e1, hc1, q, rfl, qok, qd, qa⟩ := (tree_bg (m := 3) (b := 9) (by decide) (by decide) (by decide) (by decide) 12 3 (by decide) (by decide) (by decide)).call3 hc []
    have fit : q.fit := ⟨ok_good (by decide) (by decide) q.depth q (Nat.le_refl _) qok, by omega, by omega⟩
    have z0 : ∀ st, callF sm_law_state [.p q.enc, .p (.tup [.int 0, .int 0, .int 0]), .p (.int 0)] st = .ok (.p (rstate q 0 0 0 0)) st := fun st => law_state_ok fit (x := 0) (y := 0) (z := 0) (Sm.small (by decide)) (Sm.small (by decide)) (Sm.small (by decide)) (n := 0) (by decide) st
    have g1 := fun st => same_rs fit 0 0 0 0 st
    have qq := fun st => question_eq_self fit st
    have ty : ∀ st, tyOk 0 st (.p (qob q)) = true := fun st => by simp [qob]
    conv => arg 3; simp [e1, question_make_x fit, reading_make fit, reading_question_ok, clsr, clsq, start_ok fit, z0, g1, qq, ty, -forL_cons]
    refine forL_rule (fun r => Sq _ _ (r.then _)) (fun i σ st => ∃ c a5 a6 a7 a8 a9, GB c ∧ σ = [some (.p (.scr ns)), some (.r 0), some w0, some (.p q.enc), some (.p (rob q)), a5, a6, a7, a8, a9] ∧ st = [c]) ⟨c1, _, _, _, _, _, hc1, rfl, rfl⟩ ?_ ?_
    · rintro i w σ st _ ⟨c, a5, a6, a7, a8, a9, hc, rfl, rfl⟩
      conv => arg 3; simp
      exact bI_ok _ fit hc _ _ _ _ _ _ _
    · rintro σ st ⟨c, a5, a6, a7, a8, a9, hc, rfl, rfl⟩
      conv => arg 3; simp
      exact bT_ok _ fit hc _ _ _ _ _ _ _
  · rintro σ st ⟨c, a2, a3, a4, a5, a6, a7, a8, a9, hc, rfl, rfl⟩
    conv => arg 1; simp [vEqB_data]
    exact ⟨_, rfl⟩
end K34

namespace K34
open PySem PySem.Spec PyProof.Rows L2 Y YZ YS
def top (i : Nat) : Stmt := PySem.Challenge.pw_sharesay_k34_whole_states_behind_counts.main.body.getD i (.Pass ⟨0, 0, 0, 0⟩)
def clsB : Stmt → List Stmt
  | .ClassDef (body := b) .. => b
  | _ => []
abbrev s_law_bag : Stmt := (top 47)
abbrev s_law_pull : Stmt := (top 48)
abbrev s_law_of : Stmt := (top 49)
abbrev s_law_sum : Stmt := (top 54)
abbrev s_law_atom : Stmt := (top 55)
abbrev s_law_mixed : Stmt := (top 50)
abbrev s_law_depth : Stmt := (top 57)
abbrev s_law_tree : Stmt := (top 56)
abbrev s_Question_atoms : Stmt := ((clsB (top 32)).getD 4 (.Pass ⟨0, 0, 0, 0⟩))
abbrev s_Reading_init : Stmt := ((clsB (top 45)).getD 1 (.Pass ⟨0, 0, 0, 0⟩))
abbrev s_is_number : Stmt := (top 10)
abbrev s_is_within : Stmt := (top 11)
abbrev s_are_factors : Stmt := (top 21)
abbrev s_is_atom : Stmt := (top 22)
abbrev s_is_tree : Stmt := (top 23)
abbrev s_atoms_in : Stmt := (top 24)
abbrev s_sum_text : Stmt := (top 30)
abbrev s_tree_text : Stmt := (top 31)
abbrev s_Question_init : Stmt := ((clsB (top 32)).getD 1 (.Pass ⟨0, 0, 0, 0⟩))
abbrev s_law_same : Stmt := (top 51)
abbrev s_law_twos : Stmt := (top 66)
abbrev s_law_atoms : Stmt := (top 58)
abbrev s_law_value : Stmt := (top 59)
abbrev s_law_flags : Stmt := (top 63)
abbrev s_law_state : Stmt := (top 65)
abbrev s_first_row : Stmt := (top 41)
abbrev s_Reading_start : Stmt := ((clsB (top 45)).getD 3 (.Pass ⟨0, 0, 0, 0⟩))
abbrev s_Reading_question : Stmt := ((clsB (top 45)).getD 2 (.Pass ⟨0, 0, 0, 0⟩))
abbrev s_Question_eq : Stmt := ((clsB (top 32)).getD 13 (.Pass ⟨0, 0, 0, 0⟩))
abbrev s_law_some_counts : Stmt := (top 64)
abbrev s_need_counts : Stmt := (top 29)
abbrev s_weighed : Stmt := (top 25)
abbrev s_carried : Stmt := (top 40)
abbrev s_next_row : Stmt := (top 42)
abbrev s_Reading_step : Stmt := ((clsB (top 45)).getD 4 (.Pass ⟨0, 0, 0, 0⟩))
abbrev s_Reading_behind : Stmt := ((clsB (top 45)).getD 5 (.Pass ⟨0, 0, 0, 0⟩))
abbrev s_law_places : Stmt := (top 67)
abbrev s_joined : Stmt := (top 28)
abbrev s_atom_answer : Stmt := (top 26)
abbrev s_Question_answer : Stmt := ((clsB (top 32)).getD 6 (.Pass ⟨0, 0, 0, 0⟩))
abbrev s_Reading_by_letters : Stmt := ((clsB (top 45)).getD 8 (.Pass ⟨0, 0, 0, 0⟩))
abbrev s_is_zero : Stmt := (top 39)
abbrev s_far_row : Stmt := (top 44)
abbrev s_Question_joined_by : Stmt := ((clsB (top 32)).getD 8 (.Pass ⟨0, 0, 0, 0⟩))
abbrev s_Reading_far : Stmt := ((clsB (top 45)).getD 7 (.Pass ⟨0, 0, 0, 0⟩))
abbrev s_is_at_least : Stmt := (top 38)
abbrev s_row_answer : Stmt := (top 43)
abbrev s_Reading_answer : Stmt := ((clsB (top 45)).getD 6 (.Pass ⟨0, 0, 0, 0⟩))
abbrev s_law_holds : Stmt := (top 60)
abbrev s_law_truth : Stmt := (top 61)
abbrev s_law_far : Stmt := (top 62)
abbrev s_law : Stmt := (top 68)
abbrev s_law_try : Stmt := (top 53)
abbrev s_law_field : Stmt := (top 52)
abbrev s_InvalidCounts_init : Stmt := ((clsB (top 3)).getD 0 (.Pass ⟨0, 0, 0, 0⟩))
abbrev dE_InvalidCounts : DefE := ⟨fun K => He.ma K (He.ga K "InvalidCounts") "__init__", "__init__", "InvalidCounts.__init__", defArgs s_InvalidCounts_init, defBody s_InvalidCounts_init, defScope s_InvalidCounts_init, ["__class__"]⟩
abbrev s_InvalidQuestion_init : Stmt := ((clsB (top 4)).getD 0 (.Pass ⟨0, 0, 0, 0⟩))
abbrev dE_InvalidQuestion : DefE := ⟨fun K => He.ma K (He.ga K "InvalidQuestion") "__init__", "__init__", "InvalidQuestion.__init__", defArgs s_InvalidQuestion_init, defBody s_InvalidQuestion_init, defScope s_InvalidQuestion_init, ["__class__"]⟩
abbrev s_TooMany_init : Stmt := ((clsB (top 5)).getD 0 (.Pass ⟨0, 0, 0, 0⟩))
abbrev dE_TooMany : DefE := ⟨fun K => He.ma K (He.ga K "TooMany") "__init__", "__init__", "TooMany.__init__", defArgs s_TooMany_init, defBody s_TooMany_init, defScope s_TooMany_init, ["__class__"]⟩
abbrev dE_Reading_question : DefE := ⟨fun K => (propGet K (He.ga K "Reading") "question").2, "question", "Reading.question", defArgs s_Reading_question, defBody s_Reading_question, defScope s_Reading_question, []⟩
def lamQ : Str := (envOfC "law" (defScope s_law) 0 0 .none).qual ++ ("<lambda>" : Str)
def cl (K : PySem.W.Frag) : Cls := ⟨[(He.ga K "Question", ["shape", "leaves", "written"]), (0, []), (He.ga K "Reading", ["asked", "leaves"]), (0, []), (0, []), (0, []), (0, []), (0, []), (0, []), (0, []), (0, []), (0, []), (0, []), (0, []), (0, []), (0, []), (0, []), (0, []), (0, []), (0, []), (0, []), (0, []), (0, []), (0, []), (0, []), (0, []), (0, []), (0, []), (He.ga K "InvalidCounts", ["tag"]), (He.ga K "InvalidQuestion", ["tag"]), (He.ga K "TooMany", ["most", "tag"])], [((He.cT K ("law", none)).2, lamQ)]⟩
theorem clsm {K : PySem.W.Frag} : ∀ (c : Nat) (C : Addr) (ns : List Str), (cl K)[c]? = some (C, ns) → ns.length < 1000 := by
  intro c C ns h
  have hm := List.mem_of_getElem? h
  simp only [cl, List.mem_cons, List.not_mem_nil, or_false] at hm
  rcases hm with hm | hm | hm | hm | hm | hm | hm | hm | hm | hm | hm | hm | hm | hm | hm | hm | hm | hm | hm | hm | hm | hm | hm | hm | hm | hm | hm | hm | hm | hm | hm <;> (cases hm; decide)
theorem fld1 {K : PySem.W.Frag} {cl : Cls} {fn : Str} {c i : Nat} (h : FldAt K cl fn c i) : ∀ q ∈ [(c, i)], FldAt K cl fn q.1 q.2 := fun q m => by
  have e : q = (c, i) := by simpa using m
  rw [e]; exact h
/-- what the head says -/
structure Fcts (P : Program) (K : PySem.W.Frag) (w : World) (mg : Str → Option Value) : Prop where
  g__law_bag : mg "_law_bag" = some (.ref (He.ga K "_law_bag"))
  g__law_pull : mg "_law_pull" = some (.ref (He.ga K "_law_pull"))
  g__law_of : mg "_law_of" = some (.ref (He.ga K "_law_of"))
  g__law_sum : mg "_law_sum" = some (.ref (He.ga K "_law_sum"))
  g__law_atom : mg "_law_atom" = some (.ref (He.ga K "_law_atom"))
  g__law_mixed : mg "_law_mixed" = some (.ref (He.ga K "_law_mixed"))
  g__law_depth : mg "_law_depth" = some (.ref (He.ga K "_law_depth"))
  g__law_tree : mg "_law_tree" = some (.ref (He.ga K "_law_tree"))
  g_is_number : mg "is_number" = some (.ref (He.ga K "is_number"))
  g_is_within : mg "is_within" = some (.ref (He.ga K "is_within"))
  g_are_factors : mg "are_factors" = some (.ref (He.ga K "are_factors"))
  g_is_atom : mg "is_atom" = some (.ref (He.ga K "is_atom"))
  g_is_tree : mg "is_tree" = some (.ref (He.ga K "is_tree"))
  g_atoms_in : mg "atoms_in" = some (.ref (He.ga K "atoms_in"))
  g_sum_text : mg "sum_text" = some (.ref (He.ga K "sum_text"))
  g_tree_text : mg "tree_text" = some (.ref (He.ga K "tree_text"))
  g__law_same : mg "_law_same" = some (.ref (He.ga K "_law_same"))
  g__law_twos : mg "_law_twos" = some (.ref (He.ga K "_law_twos"))
  g__law_atoms : mg "_law_atoms" = some (.ref (He.ga K "_law_atoms"))
  g__law_value : mg "_law_value" = some (.ref (He.ga K "_law_value"))
  g__law_flags : mg "_law_flags" = some (.ref (He.ga K "_law_flags"))
  g__law_state : mg "_law_state" = some (.ref (He.ga K "_law_state"))
  g_first_row : mg "first_row" = some (.ref (He.ga K "first_row"))
  g__law_some_counts : mg "_law_some_counts" = some (.ref (He.ga K "_law_some_counts"))
  g_need_counts : mg "need_counts" = some (.ref (He.ga K "need_counts"))
  g_weighed : mg "weighed" = some (.ref (He.ga K "weighed"))
  g_carried : mg "carried" = some (.ref (He.ga K "carried"))
  g_next_row : mg "next_row" = some (.ref (He.ga K "next_row"))
  g__law_places : mg "_law_places" = some (.ref (He.ga K "_law_places"))
  g_joined : mg "joined" = some (.ref (He.ga K "joined"))
  g_atom_answer : mg "atom_answer" = some (.ref (He.ga K "atom_answer"))
  g_is_zero : mg "is_zero" = some (.ref (He.ga K "is_zero"))
  g_far_row : mg "far_row" = some (.ref (He.ga K "far_row"))
  g_is_at_least : mg "is_at_least" = some (.ref (He.ga K "is_at_least"))
  g_row_answer : mg "row_answer" = some (.ref (He.ga K "row_answer"))
  g__law_holds : mg "_law_holds" = some (.ref (He.ga K "_law_holds"))
  g__law_truth : mg "_law_truth" = some (.ref (He.ga K "_law_truth"))
  g__law_far : mg "_law_far" = some (.ref (He.ga K "_law_far"))
  g_law : mg "law" = some (.ref (He.ga K "law"))
  g__law_try : mg "_law_try" = some (.ref (He.ga K "_law_try"))
  g__law_field : mg "_law_field" = some (.ref (He.ga K "_law_field"))
  g_Reading : mg "Reading" = some (.ref (He.ga K "Reading"))
  g_Question : mg "Question" = some (.ref (He.ga K "Question"))
  g_InvalidQuestion : mg "InvalidQuestion" = some (.ref (He.ga K "InvalidQuestion"))
  g_TooMany : mg "TooMany" = some (.ref (He.ga K "TooMany"))
  g_InvalidCounts : mg "InvalidCounts" = some (.ref (He.ga K "InvalidCounts"))
  g_SIGNS_OF : mg "SIGNS_OF" = some (.ref (He.ga K "SIGNS_OF"))
  g_Missing : mg "Missing" = some (.ref (He.ga K "Missing"))
  g_NothingLeft : mg "NothingLeft" = some (.ref (He.ga K "NothingLeft"))
  g_SayError : mg "SayError" = some (.ref (He.ga K "SayError"))
  b_abs : mg "abs" = none
  b_all : mg "all" = none
  b_any : mg "any" = none
  b_bool : mg "bool" = none
  b_int : mg "int" = none
  b_isinstance : mg "isinstance" = none
  b_len : mg "len" = none
  b_list : mg "list" = none
  b_max : mg "max" = none
  b_range : mg "range" = none
  b_str : mg "str" = none
  b_sum : mg "sum" = none
  b_super : mg "super" = none
  b_tuple : mg "tuple" = none
  b_zip : mg "zip" = none
  i_MOST_ATOMS : ∃ t, mg "MOST_ATOMS" = some (.int 3 t)
  i_MOST_BOUND : ∃ t, mg "MOST_BOUND" = some (.int 9 t)
  i_MOST_DEPTH : ∃ t, mg "MOST_DEPTH" = some (.int 4 t)
  i_MOST_FACTOR : ∃ t, mg "MOST_FACTOR" = some (.int 3 t)
  i_MOST_PARTS : ∃ t, mg "MOST_PARTS" = some (.int 4 t)
  x_InvalidCounts_SayError : PySem.W.exmOne K (.ref (He.ga K "InvalidCounts")) (.ref (He.ga K "SayError")) = some true
  x_InvalidQuestion_SayError : PySem.W.exmOne K (.ref (He.ga K "InvalidQuestion")) (.ref (He.ga K "SayError")) = some true
  x_TooMany_SayError : PySem.W.exmOne K (.ref (He.ga K "TooMany")) (.ref (He.ga K "SayError")) = some true
  c_Reading : L2.Cls K (He.ga K "Reading")
  mk_Reading : Mk K (He.ga K "Reading") (He.fAd K ("Reading", some "__init__"))
  c_Question : L2.Cls K (He.ga K "Question")
  mk_Question : Mk K (He.ga K "Question") (He.fAd K ("Question", some "__init__"))
  m_Question_eq : Meth K (He.ga K "Question") "__eq__" (He.fAd K ("Question", some "__eq__"))
  m_Question_answer : Meth K (He.ga K "Question") "answer" (He.fAd K ("Question", some "answer"))
  m_Question_atoms : Meth K (He.ga K "Question") "atoms" (He.fAd K ("Question", some "atoms"))
  m_Question_joined_by : Meth K (He.ga K "Question") "joined_by" (He.fAd K ("Question", some "joined_by"))
  m_Reading_answer : Meth K (He.ga K "Reading") "answer" (He.fAd K ("Reading", some "answer"))
  m_Reading_behind : Meth K (He.ga K "Reading") "behind" (He.fAd K ("Reading", some "behind"))
  m_Reading_by_letters : Meth K (He.ga K "Reading") "by_letters" (He.fAd K ("Reading", some "by_letters"))
  m_Reading_far : Meth K (He.ga K "Reading") "far" (He.fAd K ("Reading", some "far"))
  m_Reading_start : Meth K (He.ga K "Reading") "start" (He.fAd K ("Reading", some "start"))
  m_Reading_step : Meth K (He.ga K "Reading") "step" (He.fAd K ("Reading", some "step"))
  f_Question_leaves : FldAt K (cl K) "leaves" 0 1
  f_Question_shape : FldAt K (cl K) "shape" 0 0
  f_Question_written : FldAt K (cl K) "written" 0 2
  f_Reading_asked : FldAt K (cl K) "asked" 2 0
  f_Reading_leaves : FldAt K (cl K) "leaves" 2 1
  t_SIGNS_OF : KTab K w (He.ga K "SIGNS_OF") tab_SIGNS_OF
  e_InvalidCounts : excB K "InvalidCounts" "/claim/cut.py" none = true
  de_InvalidCounts : fnE K (He.ma K (He.ga K "InvalidCounts") "__init__") = dE_InvalidCounts.val
  dd_InvalidCounts : dE_InvalidCounts.okB K = true
  e_InvalidQuestion : excB K "InvalidQuestion" "/claim/cut.py" none = true
  de_InvalidQuestion : fnE K (He.ma K (He.ga K "InvalidQuestion") "__init__") = dE_InvalidQuestion.val
  dd_InvalidQuestion : dE_InvalidQuestion.okB K = true
  e_TooMany : excB K "TooMany" "/claim/cut.py" (some "most") = true
  de_TooMany : fnE K (He.ma K (He.ga K "TooMany") "__init__") = dE_TooMany.val
  dd_TooMany : dE_TooMany.okB K = true
  p_Reading_question : PropOf K (He.ga K "Reading") "question" (propGet K (He.ga K "Reading") "question").1 (propGet K (He.ga K "Reading") "question").2
  d_Reading_question : ∃ fd, FunD K "question" "Reading.question" (defArgs s_Reading_question) (defBody s_Reading_question) (defScope s_Reading_question) [] [] ((propGet K (He.ga K "Reading") "question").2) fd
  iso_Question : isoB K (He.ga K "Question") = true
  ins_Question : insB K (He.ga K "Question") = true
  nc_Question : NeC K (He.ga K "Question")
  ci_Reading_STATES : CIntC K (He.ga K "Reading") "STATES" 2000
  pf : FileOf P "/claim/cut.py"
  d_law_bag : ∃ fd, FunD K "_law_bag" "_law_bag" (defArgs s_law_bag) (defBody s_law_bag) (defScope s_law_bag) [] [] (He.fAd K ("_law_bag", none)) fd
  d_law_pull : ∃ fd, FunD K "_law_pull" "_law_pull" (defArgs s_law_pull) (defBody s_law_pull) (defScope s_law_pull) [] [] (He.fAd K ("_law_pull", none)) fd
  d_law_of : ∃ fd, FunD K "_law_of" "_law_of" (defArgs s_law_of) (defBody s_law_of) (defScope s_law_of) [] [] (He.fAd K ("_law_of", none)) fd
  d_law_sum : ∃ fd, FunD K "_law_sum" "_law_sum" (defArgs s_law_sum) (defBody s_law_sum) (defScope s_law_sum) [] [] (He.fAd K ("_law_sum", none)) fd
  d_law_atom : ∃ fd, FunD K "_law_atom" "_law_atom" (defArgs s_law_atom) (defBody s_law_atom) (defScope s_law_atom) [] [] (He.fAd K ("_law_atom", none)) fd
  d_law_mixed : ∃ fd, FunD K "_law_mixed" "_law_mixed" (defArgs s_law_mixed) (defBody s_law_mixed) (defScope s_law_mixed) [] [] (He.fAd K ("_law_mixed", none)) fd
  d_law_depth : ∃ fd, FunD K "_law_depth" "_law_depth" (defArgs s_law_depth) (defBody s_law_depth) (defScope s_law_depth) [] [] (He.fAd K ("_law_depth", none)) fd
  d_law_tree : ∃ fd, FunD K "_law_tree" "_law_tree" (defArgs s_law_tree) (defBody s_law_tree) (defScope s_law_tree) [] [] (He.fAd K ("_law_tree", none)) fd
  d_Question_atoms : ∃ fd, FunD K "atoms" "Question.atoms" (defArgs s_Question_atoms) (defBody s_Question_atoms) (defScope s_Question_atoms) [] [] (He.fAd K ("Question", some "atoms")) fd
  d_Reading_init : ∃ fd, FunD K "__init__" "Reading.__init__" (defArgs s_Reading_init) (defBody s_Reading_init) (defScope s_Reading_init) [] [] (He.fAd K ("Reading", some "__init__")) fd
  d_is_number : ∃ fd, FunD K "is_number" "is_number" (defArgs s_is_number) (defBody s_is_number) (defScope s_is_number) [] [] (He.fAd K ("is_number", none)) fd
  d_is_within : ∃ fd, FunD K "is_within" "is_within" (defArgs s_is_within) (defBody s_is_within) (defScope s_is_within) [] [] (He.fAd K ("is_within", none)) fd
  d_are_factors : ∃ fd, FunD K "are_factors" "are_factors" (defArgs s_are_factors) (defBody s_are_factors) (defScope s_are_factors) [] [] (He.fAd K ("are_factors", none)) fd
  d_is_atom : ∃ fd, FunD K "is_atom" "is_atom" (defArgs s_is_atom) (defBody s_is_atom) (defScope s_is_atom) [] [] (He.fAd K ("is_atom", none)) fd
  d_is_tree : ∃ fd, FunD K "is_tree" "is_tree" (defArgs s_is_tree) (defBody s_is_tree) (defScope s_is_tree) [] [] (He.fAd K ("is_tree", none)) fd
  d_atoms_in : ∃ fd, FunD K "atoms_in" "atoms_in" (defArgs s_atoms_in) (defBody s_atoms_in) (defScope s_atoms_in) [] [] (He.fAd K ("atoms_in", none)) fd
  d_sum_text : ∃ fd, FunD K "sum_text" "sum_text" (defArgs s_sum_text) (defBody s_sum_text) (defScope s_sum_text) [] [] (He.fAd K ("sum_text", none)) fd
  d_tree_text : ∃ fd, FunD K "tree_text" "tree_text" (defArgs s_tree_text) (defBody s_tree_text) (defScope s_tree_text) [] [] (He.fAd K ("tree_text", none)) fd
  d_Question_init : ∃ fd, FunD K "__init__" "Question.__init__" (defArgs s_Question_init) (defBody s_Question_init) (defScope s_Question_init) [] [] (He.fAd K ("Question", some "__init__")) fd
  d_law_same : ∃ fd, FunD K "_law_same" "_law_same" (defArgs s_law_same) (defBody s_law_same) (defScope s_law_same) [] [] (He.fAd K ("_law_same", none)) fd
  d_law_twos : ∃ fd, FunD K "_law_twos" "_law_twos" (defArgs s_law_twos) (defBody s_law_twos) (defScope s_law_twos) [] [] (He.fAd K ("_law_twos", none)) fd
  d_law_atoms : ∃ fd, FunD K "_law_atoms" "_law_atoms" (defArgs s_law_atoms) (defBody s_law_atoms) (defScope s_law_atoms) [] [] (He.fAd K ("_law_atoms", none)) fd
  d_law_value : ∃ fd, FunD K "_law_value" "_law_value" (defArgs s_law_value) (defBody s_law_value) (defScope s_law_value) [] [] (He.fAd K ("_law_value", none)) fd
  d_law_flags : ∃ fd, FunD K "_law_flags" "_law_flags" (defArgs s_law_flags) (defBody s_law_flags) (defScope s_law_flags) [] [] (He.fAd K ("_law_flags", none)) fd
  d_law_state : ∃ fd, FunD K "_law_state" "_law_state" (defArgs s_law_state) (defBody s_law_state) (defScope s_law_state) [] [] (He.fAd K ("_law_state", none)) fd
  d_first_row : ∃ fd, FunD K "first_row" "first_row" (defArgs s_first_row) (defBody s_first_row) (defScope s_first_row) [] [] (He.fAd K ("first_row", none)) fd
  d_Reading_start : ∃ fd, FunD K "start" "Reading.start" (defArgs s_Reading_start) (defBody s_Reading_start) (defScope s_Reading_start) [] [] (He.fAd K ("Reading", some "start")) fd
  d_Question_eq : ∃ fd, FunD K "__eq__" "Question.__eq__" (defArgs s_Question_eq) (defBody s_Question_eq) (defScope s_Question_eq) [] [] (He.fAd K ("Question", some "__eq__")) fd
  d_law_some_counts : ∃ fd, FunD K "_law_some_counts" "_law_some_counts" (defArgs s_law_some_counts) (defBody s_law_some_counts) (defScope s_law_some_counts) [] [] (He.fAd K ("_law_some_counts", none)) fd
  d_need_counts : ∃ fd, FunD K "need_counts" "need_counts" (defArgs s_need_counts) (defBody s_need_counts) (defScope s_need_counts) [] [] (He.fAd K ("need_counts", none)) fd
  d_weighed : ∃ fd, FunD K "weighed" "weighed" (defArgs s_weighed) (defBody s_weighed) (defScope s_weighed) [] [] (He.fAd K ("weighed", none)) fd
  d_carried : ∃ fd, FunD K "carried" "carried" (defArgs s_carried) (defBody s_carried) (defScope s_carried) [] [] (He.fAd K ("carried", none)) fd
  d_next_row : ∃ fd, FunD K "next_row" "next_row" (defArgs s_next_row) (defBody s_next_row) (defScope s_next_row) [] [] (He.fAd K ("next_row", none)) fd
  d_Reading_step : ∃ fd, FunD K "step" "Reading.step" (defArgs s_Reading_step) (defBody s_Reading_step) (defScope s_Reading_step) [] [] (He.fAd K ("Reading", some "step")) fd
  d_Reading_behind : ∃ fd, FunD K "behind" "Reading.behind" (defArgs s_Reading_behind) (defBody s_Reading_behind) (defScope s_Reading_behind) [] [] (He.fAd K ("Reading", some "behind")) fd
  d_law_places : ∃ fd, FunD K "_law_places" "_law_places" (defArgs s_law_places) (defBody s_law_places) (defScope s_law_places) [] [] (He.fAd K ("_law_places", none)) fd
  d_joined : ∃ fd, FunD K "joined" "joined" (defArgs s_joined) (defBody s_joined) (defScope s_joined) [] [] (He.fAd K ("joined", none)) fd
  d_atom_answer : ∃ fd, FunD K "atom_answer" "atom_answer" (defArgs s_atom_answer) (defBody s_atom_answer) (defScope s_atom_answer) [] [] (He.fAd K ("atom_answer", none)) fd
  d_Question_answer : ∃ fd, FunD K "answer" "Question.answer" (defArgs s_Question_answer) (defBody s_Question_answer) (defScope s_Question_answer) [] [] (He.fAd K ("Question", some "answer")) fd
  d_Reading_by_letters : ∃ fd, FunD K "by_letters" "Reading.by_letters" (defArgs s_Reading_by_letters) (defBody s_Reading_by_letters) (defScope s_Reading_by_letters) [] [] (He.fAd K ("Reading", some "by_letters")) fd
  d_is_zero : ∃ fd, FunD K "is_zero" "is_zero" (defArgs s_is_zero) (defBody s_is_zero) (defScope s_is_zero) [] [] (He.fAd K ("is_zero", none)) fd
  d_far_row : ∃ fd, FunD K "far_row" "far_row" (defArgs s_far_row) (defBody s_far_row) (defScope s_far_row) [] [] (He.fAd K ("far_row", none)) fd
  d_Question_joined_by : ∃ fd, FunD K "joined_by" "Question.joined_by" (defArgs s_Question_joined_by) (defBody s_Question_joined_by) (defScope s_Question_joined_by) [] [] (He.fAd K ("Question", some "joined_by")) fd
  d_Reading_far : ∃ fd, FunD K "far" "Reading.far" (defArgs s_Reading_far) (defBody s_Reading_far) (defScope s_Reading_far) [] [] (He.fAd K ("Reading", some "far")) fd
  d_is_at_least : ∃ fd, FunD K "is_at_least" "is_at_least" (defArgs s_is_at_least) (defBody s_is_at_least) (defScope s_is_at_least) [] [] (He.fAd K ("is_at_least", none)) fd
  d_row_answer : ∃ fd, FunD K "row_answer" "row_answer" (defArgs s_row_answer) (defBody s_row_answer) (defScope s_row_answer) [] [] (He.fAd K ("row_answer", none)) fd
  d_Reading_answer : ∃ fd, FunD K "answer" "Reading.answer" (defArgs s_Reading_answer) (defBody s_Reading_answer) (defScope s_Reading_answer) [] [] (He.fAd K ("Reading", some "answer")) fd
  d_law_holds : ∃ fd, FunD K "_law_holds" "_law_holds" (defArgs s_law_holds) (defBody s_law_holds) (defScope s_law_holds) [] [] (He.fAd K ("_law_holds", none)) fd
  d_law_truth : ∃ fd, FunD K "_law_truth" "_law_truth" (defArgs s_law_truth) (defBody s_law_truth) (defScope s_law_truth) [] [] (He.fAd K ("_law_truth", none)) fd
  d_law_far : ∃ fd, FunD K "_law_far" "_law_far" (defArgs s_law_far) (defBody s_law_far) (defScope s_law_far) [] [] (He.fAd K ("_law_far", none)) fd
  d_law_try : ∃ fd, FunD K "_law_try" "_law_try" (defArgs s_law_try) (defBody s_law_try) (defScope s_law_try) [] [] (He.fAd K ("_law_try", none)) fd
  d_law_field : ∃ fd, FunD K "_law_field" "_law_field" (defArgs s_law_field) (defBody s_law_field) (defScope s_law_field) [] [] (He.fAd K ("_law_field", none)) fd
section
variable {P : Program} {w : World} {K : PySem.W.Frag} {mg : Str → Option Value} {base : Heap}
theorem ex_InvalidCounts (x : Fcts P K w mg) : Exc0 P w K mg base (cl K) 1 28 (He.ga K "InvalidCounts") "InvalidCounts" := exc0_of x.pf x.e_InvalidCounts x.b_super rfl x.dd_InvalidCounts x.de_InvalidCounts ⟨_, rfl, rfl⟩ ⟨rfl, rfl, rfl, by decide +kernel, by decide +kernel, by decide +kernel, by decide +kernel, rfl, rfl⟩ (fun f cda cc => ⟨_, fun L => ⟨rfl, rfl, rfl⟩⟩) (fun _ _ _ _ _ _ _ us hl => match us, hl with | [_], _ => rfl) (fun _ => rfl)
theorem ex_InvalidQuestion (x : Fcts P K w mg) : Exc0 P w K mg base (cl K) 1 29 (He.ga K "InvalidQuestion") "InvalidQuestion" := exc0_of x.pf x.e_InvalidQuestion x.b_super rfl x.dd_InvalidQuestion x.de_InvalidQuestion ⟨_, rfl, rfl⟩ ⟨rfl, rfl, rfl, by decide +kernel, by decide +kernel, by decide +kernel, by decide +kernel, rfl, rfl⟩ (fun f cda cc => ⟨_, fun L => ⟨rfl, rfl, rfl⟩⟩) (fun _ _ _ _ _ _ _ us hl => match us, hl with | [_], _ => rfl) (fun _ => rfl)
theorem ex_TooMany (x : Fcts P K w mg) : Exc1 P w K mg base (cl K) 1 30 (He.ga K "TooMany") "TooMany" "most" "most" := exc1_of x.pf x.e_TooMany x.b_super rfl x.dd_TooMany x.de_TooMany ⟨_, rfl, rfl⟩ ⟨rfl, rfl, rfl, by decide +kernel, by decide +kernel, by decide +kernel, by decide +kernel, rfl, rfl⟩ (fun f cda cc => ⟨_, fun L => ⟨rfl, rfl, rfl⟩⟩) (by decide +kernel) (by decide +kernel) (fun _ _ _ _ _ _ _ us hl => match us, hl with | [_, _], _ => rfl) (fun _ => rfl) (fun _ => rfl)
theorem tryok (x : Fcts P K w mg) : ∀ q ∈ ([(28, "InvalidCounts", none), (29, "InvalidQuestion", none), (30, "TooMany", some "most")] : List (Nat × Str × Option Str)), TryC K (cl K) (He.ga K "SayError") (He.ga K "Missing") (He.ga K "NothingLeft") q.1 q.2.1 q.2.2 := by
  intro q hq
  simp only [List.mem_cons, List.not_mem_nil, or_false] at hq
  rcases hq with rfl | rfl | rfl
  · exact tryC_of x.e_InvalidCounts rfl x.x_InvalidCounts_SayError rfl
  · exact tryC_of x.e_InvalidQuestion rfl x.x_InvalidQuestion_SayError rfl
  · exact tryC_of x.e_TooMany rfl x.x_TooMany_SayError rfl
theorem lam_d (x : Fcts P K w mg) : LamD P w K mg base "_law_try" (He.ga K "_law_try") (He.ga K "SayError") (He.ga K "Missing") (He.ga K "NothingLeft") := by
  obtain ⟨fdt, Ft⟩ := x.d_law_try
  obtain ⟨fdf, Ff⟩ := x.d_law_field
  obtain ⟨oc, od, dV, kV, doc, pm, an, cdv, ct, osl, rfl, lk, hcd, _, _⟩ := id Ft.ex
  refine ⟨⟨oc, od, osl, _, _, _, dV, kV, doc, pm, cdv, ct, an, ["_law_ask", "_law_e"], "_law_ask", lk, hcd, Ft.bindsN (fun _ _ _ _ _ _ us hl => match us, hl with | [_], _ => rfl), ⟨rfl, rfl, rfl, by decide +kernel, rfl, by decide +kernel, by decide +kernel⟩, rfl, vis_ok rfl, by decide +kernel, by decide +kernel, fun X h1 h2 h3 h4 h5 hr q => ?_⟩, Ft.kp⟩
  subst h1 h2 h3 h4 h5
  exact try_gives rfl rfl (by decide +kernel) (fun _ => rfl) rfl rfl rfl rfl rfl x.g_SayError x.g_Missing x.g_NothingLeft x.g__law_field (by decide +kernel) (by decide +kernel) Ff (Nf := ["_law_e"]) ⟨rfl, rfl, rfl, by decide +kernel, rfl, by decide +kernel, by decide +kernel⟩ (Ff.bindsN (fun _ _ _ _ _ _ us hl => match us, hl with | [_], _ => rfl)) (fun _ => rfl) (fun a oe cls d hz hf cd A outer s H => (fb_in List.mem_cons_self hz hf rfl (vis_ok rfl) (by decide +kernel) (by decide +kernel) (fun _ _ => rfl) (.cons (.cons (.cons (.cons (.cons (.cons .nil)))))) (fb_in List.mem_cons_self hz hf rfl (vis_ok rfl) (by decide +kernel) (by decide +kernel) (fun _ _ => rfl) (.cons (.cons .nil)) (fb_in List.mem_cons_self hz hf rfl (vis_ok rfl) (by decide +kernel) (by decide +kernel) (fun _ _ => rfl) (.cons (.cons (.cons (.cons .nil)))) (fb_in List.mem_cons_self hz hf rfl (vis_ok rfl) (by decide +kernel) (by decide +kernel) (fun _ _ => rfl) (.cons (.cons .nil)) (fb_in List.mem_cons_self hz hf rfl (vis_ok rfl) (by decide +kernel) (by decide +kernel) (fun _ _ => rfl) (.cons (.cons (.cons .nil))) (fb_eq List.mem_cons_self hz hf rfl (vis_ok rfl) (by decide +kernel) (by decide +kernel) (fun _ _ => rfl) (fb_end List.mem_cons_self hz hf rfl (vis_ok rfl) (by decide +kernel) (by decide +kernel) (fun _ _ => rfl))))))))) hr
theorem sc_law_bag : FnScope ["_law_script", "_law_salt", "_law_cell"] ["_law_script"] (defScope s_law_bag) := ⟨rfl, rfl, rfl, by decide +kernel, rfl, by decide +kernel, by decide +kernel⟩
theorem ok_law_bag (x : Fcts P K w mg) : Fk P w K mg base (cl K) 1 (He.fAd K ("_law_bag", none)) ["_law_script"] sm_law_bag := Fk.of x.d_law_bag sc_law_bag (fun _ _ _ _ _ _ us hl => match us, hl with | [_], _ => rfl) fun cd A outer s H E g hr => (ss_cons (ss_set g (i := 1) rfl (loc_ok rfl) se_int rfl (.inl rfl))
    (ss_cons (ss_for PassesOwn.never g (si_of g (se_sl g (v (i := 0) rfl rfl rfl) so_none (so_some se_int))) (sg_name g (i := 2) rfl (loc_ok rfl) (.inl rfl)) (ss_one (ss_set g (i := 1) rfl (loc_ok rfl) (se_mod (se_callT call_intA vInt_ok rfl x.b_int (by decide +kernel) (sa_cons (se_add g (se_add g (se_mulI (v (i := 1) rfl rfl rfl) se_int) (se_mod (se_callT call_intA vInt_ok rfl x.b_int (by decide +kernel) (sa_cons (v (i := 2) rfl rfl rfl) sa_nil rfl) (by decide +kernel) rfl rfl rfl) se_int)) se_int) sa_nil rfl) (by decide +kernel) rfl rfl rfl) se_int) rfl (.inl rfl))) (fun _ => rfl))
    (ss_one (ss_ret (se_lstC (sa_cons (se_callT call_list_of vLstOf_ok rfl x.b_list (by decide +kernel) (sa_cons (se_sl g (v (i := 0) rfl rfl rfl) so_none (so_some se_int)) sa_nil rfl) (by decide +kernel) rfl rfl rfl) (sa_cons se_int (sa_cons se_int (sa_cons (v (i := 1) rfl rfl rfl) sa_nil rfl) rfl) rfl) rfl))))))
theorem sc_law_pull : FnScope ["_law_bag_here", "_law_amount", "_law_seed", "_law_cell", "_law_got"] ["_law_bag_here", "_law_amount"] (defScope s_law_pull) := ⟨rfl, rfl, rfl, by decide +kernel, rfl, by decide +kernel, by decide +kernel⟩
theorem ok_law_pull (x : Fcts P K w mg) : Fk P w K mg base (cl K) 1 (He.fAd K ("_law_pull", none)) ["_law_bag_here", "_law_amount"] sm_law_pull := Fk.of x.d_law_pull sc_law_pull (fun _ _ _ _ _ _ us hl => match us, hl with | [_, _], _ => rfl) fun cd A outer s H E g hr => (ss_cons (ss_if (sw_pt (sw_and (st_eq g (ixK g (fun _ _ => rfl) (v (i := 0) rfl rfl rfl) se_int) se_int rfl) (sw_and1 (st_lt (ixK g (fun _ _ => rfl) (v (i := 0) rfl rfl rfl) se_int) (se_callB call_lenA vLen_ok rfl x.b_len (by decide +kernel) (sa_cons (ixK g (fun _ _ => rfl) (v (i := 0) rfl rfl rfl) se_int) sa_nil rfl) (by decide +kernel) rfl rfl rfl) rfl)))) (ss_cons (ss_set g (i := 3) rfl (loc_ok rfl) (ixK g (fun _ _ => rfl) (ixK g (fun _ _ => rfl) (v (i := 0) rfl rfl rfl) se_int) (ixK g (fun _ _ => rfl) (v (i := 0) rfl rfl rfl) se_int)) rfl (.inl rfl))
    (ss_cons (ss_setIx g (v (i := 0) rfl rfl rfl) se_int (se_add g (ixK g (fun _ _ => rfl) (v (i := 0) rfl rfl rfl) se_int) se_int) (fun _ => rfl) rfl rfl rfl)
    (ss_one (ss_if (st_ge (v (i := 3) rfl rfl rfl) (se_pow se_int se_int) rfl) (ss_one (ss_setIx g (v (i := 0) rfl rfl rfl) se_int (v (i := 3) rfl rfl rfl) (fun _ => rfl) rfl rfl rfl)) (ss_one (ss_setIx g (v (i := 0) rfl rfl rfl) se_int (se_mod (se_callT call_intA vInt_ok rfl x.b_int (by decide +kernel) (sa_cons (se_add g (se_add g (se_mulI (ixK g (fun _ _ => rfl) (v (i := 0) rfl rfl rfl) se_int) se_int) (se_mulI (se_mod (se_callT call_intA vInt_ok rfl x.b_int (by decide +kernel) (sa_cons (v (i := 3) rfl rfl rfl) sa_nil rfl) (by decide +kernel) rfl rfl rfl) se_int) se_int)) se_int) sa_nil rfl) (by decide +kernel) rfl rfl rfl) se_int) (fun _ => rfl) rfl rfl rfl)))))) ss_nil)
    (ss_cons (ss_if (st_gt (ixK g (fun _ _ => rfl) (v (i := 0) rfl rfl rfl) se_int) se_int rfl) (ss_cons (ss_set g (i := 4) rfl (loc_ok rfl) (se_mod (se_callT call_intA vInt_ok rfl x.b_int (by decide +kernel) (sa_cons (ixK g (fun _ _ => rfl) (v (i := 0) rfl rfl rfl) se_int) sa_nil rfl) (by decide +kernel) rfl rfl rfl) (v (i := 1) rfl rfl rfl)) rfl (.inl rfl))
    (ss_cons (ss_setIx g (v (i := 0) rfl rfl rfl) se_int (se_fdv (ixK g (fun _ _ => rfl) (v (i := 0) rfl rfl rfl) se_int) (v (i := 1) rfl rfl rfl)) (fun _ => rfl) rfl rfl rfl)
    (ss_one (ss_ret (v (i := 4) rfl rfl rfl))))) ss_nil)
    (ss_cons (ss_set g (i := 2) rfl (loc_ok rfl) (ixK g (fun _ _ => rfl) (v (i := 0) rfl rfl rfl) se_int) rfl (.inl rfl))
    (ss_cons (ss_setIx g (v (i := 0) rfl rfl rfl) se_int (se_mod (se_callT call_intA vInt_ok rfl x.b_int (by decide +kernel) (sa_cons (se_add g (se_add g (se_mulI (v (i := 2) rfl rfl rfl) (v (i := 2) rfl rfl rfl)) (se_mulI (v (i := 2) rfl rfl rfl) se_int)) se_int) sa_nil rfl) (by decide +kernel) rfl rfl rfl) se_int) (fun _ => rfl) rfl rfl rfl)
    (ss_one (ss_ret (se_mod (se_callT call_intA vInt_ok rfl x.b_int (by decide +kernel) (sa_cons (se_add g (se_fdv (ixK g (fun _ _ => rfl) (v (i := 0) rfl rfl rfl) se_int) se_int) (se_mulI (se_mod (se_callT call_intA vInt_ok rfl x.b_int (by decide +kernel) (sa_cons (ixK g (fun _ _ => rfl) (v (i := 0) rfl rfl rfl) se_int) sa_nil rfl) (by decide +kernel) rfl rfl rfl) se_int) se_int)) sa_nil rfl) (by decide +kernel) rfl rfl rfl) (v (i := 1) rfl rfl rfl))))))))
theorem sc_law_of : FnScope ["_law_bag_here", "_law_things"] ["_law_bag_here", "_law_things"] (defScope s_law_of) := ⟨rfl, rfl, rfl, by decide +kernel, rfl, by decide +kernel, by decide +kernel⟩
theorem ok_law_of (x : Fcts P K w mg) : Fk P w K mg base (cl K) 2 (He.fAd K ("_law_of", none)) ["_law_bag_here", "_law_things"] sm_law_of := Fk.of x.d_law_of sc_law_of (fun _ _ _ _ _ _ us hl => match us, hl with | [_, _], _ => rfl) fun cd A outer s H E g hr => (ss_one (ss_ret (ixK g (fun _ _ => rfl) (v (i := 1) rfl rfl rfl) (callK (ok_law_pull x) g (hr.mono (by decide)) rfl x.g__law_pull (sa_cons (v (i := 0) rfl rfl rfl) (sa_cons (se_callB call_lenA vLen_ok rfl x.b_len (by decide +kernel) (sa_cons (v (i := 1) rfl rfl rfl) sa_nil rfl) (by decide +kernel) rfl rfl rfl) sa_nil rfl) rfl) rfl rfl rfl))))
theorem sc_law_sum : FnScope ["_law_bag_here", "_law_most", "_law_found", "_law_letter"] ["_law_bag_here", "_law_most"] (defScope s_law_sum) := ⟨rfl, rfl, rfl, by decide +kernel, rfl, by decide +kernel, by decide +kernel⟩
theorem ok_law_sum (x : Fcts P K w mg) : Fk P w K mg base (cl K) 2 (He.fAd K ("_law_sum", none)) ["_law_bag_here", "_law_most"] sm_law_sum := Fk.of x.d_law_sum sc_law_sum (fun _ _ _ _ _ _ us hl => match us, hl with | [_, _], _ => rfl) fun cd A outer s H E g hr => (ss_cons (ss_setLc g finC_ok rfl rfl (sw_true rfl rfl rfl rfl) (own := [("_law_letter", 3)]) (by kernel_rfl) rfl (si_of g se_str) (by decide +kernel) (fun _ => (sg_name (GX.blk g) (i := 3) rfl (loc_ok rfl) (by first | exact .inl rfl | exact .inr rfl))) (fun _ => sts_nil) (fun _ => (se_sub (callK (ok_law_pull x) (GX.blk g) (hr.mono (by decide)) rfl x.g__law_pull (sa_cons (v (i := 0) rfl rfl rfl) (sa_cons (se_add (GX.blk g) (se_mulI se_int (v (i := 1) rfl rfl rfl)) se_int) sa_nil rfl) rfl) rfl rfl rfl) (v (i := 1) rfl rfl rfl))) (fun _ => rfl))
    (ss_cons (ss_if (st_eq g (callK (ok_law_pull x) g (hr.mono (by decide)) rfl x.g__law_pull (sa_cons (v (i := 0) rfl rfl rfl) (sa_cons se_int sa_nil rfl) rfl) rfl rfl rfl) se_int rfl) (ss_one (ss_setIx g (v (i := 2) rfl rfl rfl) (callK (ok_law_pull x) g (hr.mono (by decide)) rfl x.g__law_pull (sa_cons (v (i := 0) rfl rfl rfl) (sa_cons se_int sa_nil rfl) rfl) rfl rfl rfl) se_int (fun _ => rfl) rfl rfl rfl)) ss_nil)
    (ss_cons (ss_if (st_not (st_tru g (se_callB (call_anyG g.hc) vAnyG_ok rfl x.b_any (by decide +kernel) (sa_cons (v (i := 2) rfl rfl rfl) sa_nil rfl) (by decide +kernel) rfl rfl rfl) (fun _ => rfl))) (ss_one (ss_setIx g (v (i := 2) rfl rfl rfl) (callK (ok_law_pull x) g (hr.mono (by decide)) rfl x.g__law_pull (sa_cons (v (i := 0) rfl rfl rfl) (sa_cons se_int sa_nil rfl) rfl) rfl rfl rfl) se_int (fun _ => rfl) rfl rfl rfl)) ss_nil)
    (ss_one (ss_ret (se_callT call_tuple_of vTupOf_ok rfl x.b_tuple (by decide +kernel) (sa_cons (v (i := 2) rfl rfl rfl) sa_nil rfl) (by decide +kernel) rfl rfl rfl))))))
theorem sc_law_atom : FnScope ["_law_bag_here", "_law_most", "_law_bound", "_law_word", "_law_number", "_law_divisor"] ["_law_bag_here", "_law_most", "_law_bound"] (defScope s_law_atom) := ⟨rfl, rfl, rfl, by decide +kernel, rfl, by decide +kernel, by decide +kernel⟩
theorem ok_law_atom (x : Fcts P K w mg) : Fk P w K mg base (cl K) 3 (He.fAd K ("_law_atom", none)) ["_law_bag_here", "_law_most", "_law_bound"] sm_law_atom := Fk.of x.d_law_atom sc_law_atom (fun _ _ _ _ _ _ us hl => match us, hl with | [_, _, _], _ => rfl) fun cd A outer s H E g hr => (ss_cons (ss_set g (i := 3) rfl (loc_ok rfl) (callK (ok_law_of x) g (hr.mono (by decide)) rfl x.g__law_of (sa_cons (v (i := 0) rfl rfl rfl) (sa_cons (se_lst (sa_cons se_str (sa_cons se_str (sa_cons se_str (sa_cons se_str (sa_cons se_str sa_nil rfl) rfl) rfl) rfl) rfl)) sa_nil rfl) rfl) rfl rfl rfl) rfl (.inl rfl))
    (ss_cons (ss_if (st_eq g (v (i := 3) rfl rfl rfl) se_str rfl) (ss_cons (ss_set g (i := 5) rfl (loc_ok rfl) (se_add g se_int (callK (ok_law_pull x) g (hr.mono (by decide)) rfl x.g__law_pull (sa_cons (v (i := 0) rfl rfl rfl) (sa_cons se_int sa_nil rfl) rfl) rfl rfl rfl)) rfl (.inl rfl))
    (ss_one (ss_ret (se_tup (sa_cons se_str (sa_cons (callK (ok_law_sum x) g (hr.mono (by decide)) rfl x.g__law_sum (sa_cons (v (i := 0) rfl rfl rfl) (sa_cons (v (i := 1) rfl rfl rfl) sa_nil rfl) rfl) rfl rfl rfl) (sa_cons (v (i := 5) rfl rfl rfl) (sa_cons (callK (ok_law_pull x) g (hr.mono (by decide)) rfl x.g__law_pull (sa_cons (v (i := 0) rfl rfl rfl) (sa_cons (v (i := 5) rfl rfl rfl) sa_nil rfl) rfl) rfl rfl rfl) sa_nil rfl) rfl) rfl) rfl))))) ss_nil)
    (ss_cons (ss_set g (i := 4) rfl (loc_ok rfl) (callK (ok_law_of x) g (hr.mono (by decide)) rfl x.g__law_of (sa_cons (v (i := 0) rfl rfl rfl) (sa_cons (se_lst (sa_cons se_int (sa_cons se_int (sa_cons se_int (sa_cons (se_sub (callK (ok_law_pull x) g (hr.mono (by decide)) rfl x.g__law_pull (sa_cons (v (i := 0) rfl rfl rfl) (sa_cons (se_add g (se_mulI se_int (v (i := 2) rfl rfl rfl)) se_int) sa_nil rfl) rfl) rfl rfl rfl) (v (i := 2) rfl rfl rfl)) sa_nil rfl) rfl) rfl) rfl)) sa_nil rfl) rfl) rfl rfl rfl) rfl (.inl rfl))
    (ss_one (ss_ret (se_tup (sa_cons (v (i := 3) rfl rfl rfl) (sa_cons (callK (ok_law_sum x) g (hr.mono (by decide)) rfl x.g__law_sum (sa_cons (v (i := 0) rfl rfl rfl) (sa_cons (v (i := 1) rfl rfl rfl) sa_nil rfl) rfl) rfl rfl rfl) (sa_cons (v (i := 4) rfl rfl rfl) sa_nil rfl) rfl) rfl)))))))
theorem sc_law_mixed : FnScope ["_law_bag_here", "_law_things", "_law_found", "_law_thing"] ["_law_bag_here", "_law_things"] (defScope s_law_mixed) := ⟨rfl, rfl, rfl, by decide +kernel, rfl, by decide +kernel, by decide +kernel⟩
theorem ok_law_mixed (x : Fcts P K w mg) : Fk P w K mg base (cl K) 2 (He.fAd K ("_law_mixed", none)) ["_law_bag_here", "_law_things"] sm_law_mixed := Fk.of x.d_law_mixed sc_law_mixed (fun _ _ _ _ _ _ us hl => match us, hl with | [_, _], _ => rfl) fun cd A outer s H E g hr => (ss_cons (ss_set g (i := 2) rfl (loc_ok rfl) (se_lstC sa_nil) rfl (.inl rfl))
    (ss_cons (ss_for PassesOwn.never g (si_of g (v (i := 1) rfl rfl rfl)) (sg_name g (i := 3) rfl (loc_ok rfl) (.inl rfl)) (ss_one (ss_expr (se_bm g F.plainAttrs_list F.slot_list_insert F.type_list_insert mt_insert vInsert_ok (v (i := 2) rfl rfl rfl) (sa_cons (callK (ok_law_pull x) g (hr.mono (by decide)) rfl x.g__law_pull (sa_cons (v (i := 0) rfl rfl rfl) (sa_cons (se_add g (se_callB call_lenA vLen_ok rfl x.b_len (by decide +kernel) (sa_cons (v (i := 2) rfl rfl rfl) sa_nil rfl) (by decide +kernel) rfl rfl rfl) se_int) sa_nil rfl) rfl) rfl rfl rfl) (sa_cons (v (i := 3) rfl rfl rfl) sa_nil rfl) rfl) rfl rfl rfl rfl rfl) rfl)) (fun _ => rfl))
    (ss_one (ss_ret (se_frz (v (i := 2) rfl rfl rfl))))))
theorem sc_law_depth : FnScope ["_law_tree_here", "_law_part"] ["_law_tree_here"] (defScope s_law_depth) := ⟨rfl, rfl, rfl, by decide +kernel, rfl, by decide +kernel, by decide +kernel⟩
theorem ok_law_depth (x : Fcts P K w mg) : ∀ n : Nat, Fk P w K mg base (cl K) (0 + n) (He.fAd K ("_law_depth", none)) ["_law_tree_here"] (sm_law_depth n)
  | 0 => (Fk.zero (N := []) (fun _ _ => rfl) x.d_law_depth (fun _ _ _ _ _ _ us hl => match us, hl with | [_], _ => rfl)).mono (Nat.zero_le _)
  | n + 1 => (fun (ih : Fk P w K mg base (cl K) (0 + n) (He.fAd K ("_law_depth", none)) ["_law_tree_here"] (sm_law_depth n)) => Fk.of x.d_law_depth sc_law_depth (fun _ _ _ _ _ _ us hl => match us, hl with | [_], _ => rfl) fun cd A outer s H E g hr => (ss_cons (ss_if (st_in g (ixK g (fun _ _ => rfl) (v (i := 0) rfl rfl rfl) se_int) (se_lst (sa_cons se_str (sa_cons se_str (sa_cons se_str sa_nil rfl) rfl) rfl)) rfl) (ss_one (ss_ret (se_add g se_int (se_callB (call_maxS g.hc) vMaxS_ok rfl x.b_max (by decide +kernel) (sa_cons (se_lc g finP_ok (own := [("_law_part", 1)]) (by kernel_rfl) rfl (si_of g (se_sl g (v (i := 0) rfl rfl rfl) (so_some se_int) so_none)) (by decide +kernel) (fun _ => (sg_name (GX.blk g) (i := 1) rfl (loc_ok rfl) (by first | exact .inl rfl | exact .inr rfl))) (fun _ => sts_nil) (fun _ => (callK ih (GX.blk g) hr rfl x.g__law_depth (sa_cons (v (i := 1) rfl rfl rfl) sa_nil rfl) rfl rfl rfl)) (fun _ => rfl)) sa_nil rfl) (by decide +kernel) rfl rfl rfl)))) ss_nil)
    (ss_one (ss_ret se_int)))) (ok_law_depth x n)
theorem sc_law_tree : FnScope ["_law_bag_here", "_law_atoms_here", "_law_most", "_law_bound", "_law_tree_here", "_law_some", "_law_parts", "_law_k"] ["_law_bag_here", "_law_atoms_here", "_law_most", "_law_bound"] (defScope s_law_tree) := ⟨rfl, rfl, rfl, by decide +kernel, rfl, by decide +kernel, by decide +kernel⟩
theorem ok_law_tree (x : Fcts P K w mg) : ∀ n : Nat, Fk P w K mg base (cl K) (12 + n) (He.fAd K ("_law_tree", none)) ["_law_bag_here", "_law_atoms_here", "_law_most", "_law_bound"] (sm_law_tree n)
  | 0 => (Fk.zero (N := []) (fun _ _ => rfl) x.d_law_tree (fun _ _ _ _ _ _ us hl => match us, hl with | [_, _, _, _], _ => rfl)).mono (Nat.zero_le _)
  | n + 1 => (fun (ih : Fk P w K mg base (cl K) (12 + n) (He.fAd K ("_law_tree", none)) ["_law_bag_here", "_law_atoms_here", "_law_most", "_law_bound"] (sm_law_tree n)) => Fk.of x.d_law_tree sc_law_tree (fun _ _ _ _ _ _ us hl => match us, hl with | [_, _, _, _], _ => rfl) fun cd A outer s H E g hr => (ss_cons (ss_if (sw_pt (sw_or (st_lt (v (i := 1) rfl rfl rfl) se_int rfl) (sw_or1 (st_eq g (callK (ok_law_pull x) g (hr.mono (by omega)) rfl x.g__law_pull (sa_cons (v (i := 0) rfl rfl rfl) (sa_cons se_int sa_nil rfl) rfl) rfl rfl rfl) se_int rfl)))) (ss_one (ss_set g (i := 4) rfl (loc_ok rfl) (callK (ok_law_atom x) g (hr.mono (by omega)) rfl x.g__law_atom (sa_cons (v (i := 0) rfl rfl rfl) (sa_cons (v (i := 2) rfl rfl rfl) (sa_cons (v (i := 3) rfl rfl rfl) sa_nil rfl) rfl) rfl) rfl rfl rfl) rfl (.inl rfl))) (ss_cons (ss_set g (i := 5) rfl (loc_ok rfl) (se_add g se_int (callK (ok_law_pull x) g (hr.mono (by omega)) rfl x.g__law_pull (sa_cons (v (i := 0) rfl rfl rfl) (sa_cons (se_sub (v (i := 1) rfl rfl rfl) se_int) sa_nil rfl) rfl) rfl rfl rfl)) rfl (.inl rfl))
    (ss_cons (ss_setLc g finP_ok rfl rfl (sw_true rfl rfl rfl rfl) (own := [("_law_k", 7)]) (by kernel_rfl) rfl (si_rng1 rfl x.b_range (se_add g (v (i := 5) rfl rfl rfl) se_int) rfl) (by decide +kernel) (fun _ => (sg_name (GX.blk g) (i := 7) rfl (loc_ok rfl) (by first | exact .inl rfl | exact .inr rfl))) (fun _ => sts_nil) (fun _ => (se_if (st_gt (v (i := 7) rfl rfl rfl) se_int rfl) (callK (ok_law_atom x) (GX.blk g) (hr.mono (by omega)) rfl x.g__law_atom (sa_cons (v (i := 0) rfl rfl rfl) (sa_cons (v (i := 2) rfl rfl rfl) (sa_cons (v (i := 3) rfl rfl rfl) sa_nil rfl) rfl) rfl) rfl rfl rfl) (callK ih (GX.blk g) hr rfl x.g__law_tree (sa_cons (v (i := 0) rfl rfl rfl) (sa_cons (se_sub (v (i := 1) rfl rfl rfl) (v (i := 5) rfl rfl rfl)) (sa_cons (v (i := 2) rfl rfl rfl) (sa_cons (v (i := 3) rfl rfl rfl) sa_nil rfl) rfl) rfl) rfl) rfl rfl rfl))) (fun _ => rfl))
    (ss_one (ss_set g (i := 4) rfl (loc_ok rfl) (se_callT call_tuple_of vTupOf_ok rfl x.b_tuple (by decide +kernel) (sa_cons (se_add g (se_lst (sa_cons (callK (ok_law_of x) g (hr.mono (by omega)) rfl x.g__law_of (sa_cons (v (i := 0) rfl rfl rfl) (sa_cons (se_lst (sa_cons se_str (sa_cons se_str sa_nil rfl) rfl)) sa_nil rfl) rfl) rfl rfl rfl) sa_nil rfl)) (callK (ok_law_mixed x) g (hr.mono (by omega)) rfl x.g__law_mixed (sa_cons (v (i := 0) rfl rfl rfl) (sa_cons (v (i := 6) rfl rfl rfl) sa_nil rfl) rfl) rfl rfl rfl)) sa_nil rfl) (by decide +kernel) rfl rfl rfl) rfl (.inl rfl))))))
    (ss_one (ss_ret (se_if (sw_pt (sw_and (st_eq g (callK (ok_law_pull x) g (hr.mono (by omega)) rfl x.g__law_pull (sa_cons (v (i := 0) rfl rfl rfl) (sa_cons se_int sa_nil rfl) rfl) rfl rfl rfl) se_int rfl) (sw_and1 (st_lt (callK (ok_law_depth x 12) g (hr.mono (by omega)) rfl x.g__law_depth (sa_cons (v (i := 4) rfl rfl rfl) sa_nil rfl) rfl rfl rfl) se_int rfl)))) (se_tup (sa_cons se_str (sa_cons (v (i := 4) rfl rfl rfl) sa_nil rfl) rfl)) (v (i := 4) rfl rfl rfl)))))) (ok_law_tree x n)
theorem sc_Question_atoms : FnScope ["self"] ["self"] (defScope s_Question_atoms) := ⟨rfl, rfl, rfl, by decide +kernel, rfl, by decide +kernel, by decide +kernel⟩
theorem ok_Question_atoms (x : Fcts P K w mg) : Fk P w K mg base (cl K) 1 (He.fAd K ("Question", some "atoms")) ["self"] sm_Question_atoms := Fk.of x.d_Question_atoms sc_Question_atoms (fun _ _ _ _ _ _ us hl => match us, hl with | [_], _ => rfl) fun cd A outer s H E g hr => (ss_one (ss_ret (se_callT call_list_of vLstOf_ok rfl x.b_list (by decide +kernel) (sa_cons (se_fld g (fld1 x.f_Question_leaves) (v (i := 0) rfl rfl rfl) rfl) sa_nil rfl) (by decide +kernel) rfl rfl rfl)))
theorem sc_Reading_init : FnScope ["self", "question"] ["self", "question"] (defScope s_Reading_init) := ⟨rfl, rfl, rfl, by decide +kernel, rfl, by decide +kernel, by decide +kernel⟩
theorem ok_Reading_init (x : Fcts P K w mg) : Fk P w K mg base (cl K) 2 (He.fAd K ("Reading", some "__init__")) ["self", "question"] sm_Reading_init := Fk.of x.d_Reading_init sc_Reading_init (fun _ _ _ _ _ _ us hl => match us, hl with | [_, _], _ => rfl) fun cd A outer s H E g hr => (ss_cons (ss_setF g (fld1 x.f_Reading_asked) clsm (v (i := 0) rfl rfl rfl) (v (i := 1) rfl rfl rfl) rfl)
    (ss_one (ss_setF g (fld1 x.f_Reading_leaves) clsm (v (i := 0) rfl rfl rfl) (methK0 (ok_Question_atoms x) g (hr.mono (by decide)) rfl rfl x.c_Question x.m_Question_atoms (v (i := 1) rfl rfl rfl) rfl) rfl)))
theorem sc_is_number : FnScope ["value"] ["value"] (defScope s_is_number) := ⟨rfl, rfl, rfl, by decide +kernel, rfl, by decide +kernel, by decide +kernel⟩
theorem ok_is_number (x : Fcts P K w mg) : Fk P w K mg base (cl K) 1 (He.fAd K ("is_number", none)) ["value"] sm_is_number := Fk.of x.d_is_number sc_is_number (fun _ _ _ _ _ _ us hl => match us, hl with | [_], _ => rfl) fun cd A outer s H E g hr => (ss_one (ss_ret (se_and (se_isi g (by decide) rfl x.b_isinstance rfl x.b_int (by decide +kernel) (by decide +kernel) rfl (v (i := 0) rfl rfl rfl) rfl rfl rfl) (se_one (se_not (se_isi g (by decide) rfl x.b_isinstance rfl x.b_bool (by decide +kernel) (by decide +kernel) rfl (v (i := 0) rfl rfl rfl) rfl rfl rfl))))))
theorem sc_is_within : FnScope ["value", "least", "most"] ["value", "least", "most"] (defScope s_is_within) := ⟨rfl, rfl, rfl, by decide +kernel, rfl, by decide +kernel, by decide +kernel⟩
theorem ok_is_within (x : Fcts P K w mg) : Fk P w K mg base (cl K) 2 (He.fAd K ("is_within", none)) ["value", "least", "most"] sm_is_within := Fk.of x.d_is_within sc_is_within (fun _ _ _ _ _ _ us hl => match us, hl with | [_, _, _], _ => rfl) fun cd A outer s H E g hr => (ss_one (ss_ret (se_and (callK (ok_is_number x) g (hr.mono (by decide)) rfl x.g_is_number (sa_cons (v (i := 0) rfl rfl rfl) sa_nil rfl) rfl rfl rfl) (se_one (se_chain op_le op_le vLe_ok vLe_ok (v (i := 1) rfl rfl rfl) (v (i := 0) rfl rfl rfl) (v (i := 2) rfl rfl rfl) (by with_unfolding_all rfl))))))
theorem sc_are_factors : FnScope ["value", "factor"] ["value"] (defScope s_are_factors) := ⟨rfl, rfl, rfl, by decide +kernel, rfl, by decide +kernel, by decide +kernel⟩
theorem ok_are_factors (x : Fcts P K w mg) : Fk P w K mg base (cl K) 3 (He.fAd K ("are_factors", none)) ["value"] sm_are_factors := Fk.of x.d_are_factors sc_are_factors (fun _ _ _ _ _ _ us hl => match us, hl with | [_], _ => rfl) fun cd A outer s H E g hr => (ss_cons (ss_if (sw_pt (sw_or (st_not (st_tru g (se_isi g (by decide) rfl x.b_isinstance rfl x.b_tuple (by decide +kernel) (by decide +kernel) rfl (v (i := 0) rfl rfl rfl) rfl rfl rfl) (fun _ => rfl))) (sw_or (st_ne g (se_callB call_lenA vLen_ok rfl x.b_len (by decide +kernel) (sa_cons (v (i := 0) rfl rfl rfl) sa_nil rfl) (by decide +kernel) rfl rfl rfl) se_int rfl) (sw_or1 (st_not (st_tru g (se_callB (call_anyG g.hc) vAnyG_ok rfl x.b_any (by decide +kernel) (sa_cons (v (i := 0) rfl rfl rfl) sa_nil rfl) (by decide +kernel) rfl rfl rfl) (fun _ => rfl))))))) (ss_one (ss_ret se_bl)) ss_nil)
    (ss_one (ss_ret (se_callB (call_allG g.hc) vAnyG_ok rfl x.b_all (by decide +kernel) (sa_cons (se_lc g finP_ok (own := [("factor", 1)]) (by kernel_rfl) rfl (si_of g (v (i := 0) rfl rfl rfl)) (by decide +kernel) (fun _ => (sg_name (GX.blk g) (i := 1) rfl (loc_ok rfl) (by first | exact .inl rfl | exact .inr rfl))) (fun _ => sts_nil) (fun _ => (callK (ok_is_within x) (GX.blk g) (hr.mono (by decide)) rfl x.g_is_within (sa_cons (v (i := 1) rfl rfl rfl) (sa_cons (se_sub se_int (se_gint rfl x.i_MOST_FACTOR rfl)) (sa_cons (se_gint rfl x.i_MOST_FACTOR rfl) sa_nil rfl) rfl) rfl) rfl rfl rfl)) (fun _ => rfl)) sa_nil rfl) (by decide +kernel) rfl rfl rfl))))
theorem sc_is_atom : FnScope ["tree"] ["tree"] (defScope s_is_atom) := ⟨rfl, rfl, rfl, by decide +kernel, rfl, by decide +kernel, by decide +kernel⟩
theorem ok_is_atom (x : Fcts P K w mg) : Fk P w K mg base (cl K) 4 (He.fAd K ("is_atom", none)) ["tree"] sm_is_atom := Fk.of x.d_is_atom sc_is_atom (fun _ _ _ _ _ _ us hl => match us, hl with | [_], _ => rfl) fun cd A outer s H E g hr => (ss_cons (ss_if (st_eq g (ixK g (fun _ _ => rfl) (v (i := 0) rfl rfl rfl) se_int) se_str rfl) (ss_cons (ss_if (sw_pt (sw_or (st_ne g (se_callB call_lenA vLen_ok rfl x.b_len (by decide +kernel) (sa_cons (v (i := 0) rfl rfl rfl) sa_nil rfl) (by decide +kernel) rfl rfl rfl) se_int rfl) (sw_or (st_not (st_tru g (callK (ok_are_factors x) g (hr.mono (by decide)) rfl x.g_are_factors (sa_cons (ixK g (fun _ _ => rfl) (v (i := 0) rfl rfl rfl) se_int) sa_nil rfl) rfl rfl rfl) (fun _ => rfl))) (sw_or1 (st_not (st_tru g (callK (ok_is_within x) g (hr.mono (by decide)) rfl x.g_is_within (sa_cons (ixK g (fun _ _ => rfl) (v (i := 0) rfl rfl rfl) se_int) (sa_cons se_int (sa_cons se_int sa_nil rfl) rfl) rfl) rfl rfl rfl) (fun _ => rfl))))))) (ss_one (ss_ret se_bl)) ss_nil)
    (ss_one (ss_ret (callK (ok_is_within x) g (hr.mono (by decide)) rfl x.g_is_within (sa_cons (ixK g (fun _ _ => rfl) (v (i := 0) rfl rfl rfl) se_int) (sa_cons se_int (sa_cons (se_sub (ixK g (fun _ _ => rfl) (v (i := 0) rfl rfl rfl) se_int) se_int) sa_nil rfl) rfl) rfl) rfl rfl rfl)))) ss_nil)
    (ss_cons (ss_if (sw_pt (sw_or (st_notInT g x.t_SIGNS_OF rfl x.g_SIGNS_OF rfl (ixK g (fun _ _ => rfl) (v (i := 0) rfl rfl rfl) se_int)) (sw_or1 (st_ne g (se_callB call_lenA vLen_ok rfl x.b_len (by decide +kernel) (sa_cons (v (i := 0) rfl rfl rfl) sa_nil rfl) (by decide +kernel) rfl rfl rfl) se_int rfl)))) (ss_one (ss_ret se_bl)) ss_nil)
    (ss_one (ss_ret (se_and (callK (ok_are_factors x) g (hr.mono (by decide)) rfl x.g_are_factors (sa_cons (ixK g (fun _ _ => rfl) (v (i := 0) rfl rfl rfl) se_int) sa_nil rfl) rfl rfl rfl) (se_one (callK (ok_is_within x) g (hr.mono (by decide)) rfl x.g_is_within (sa_cons (ixK g (fun _ _ => rfl) (v (i := 0) rfl rfl rfl) se_int) (sa_cons (se_sub se_int (se_gint rfl x.i_MOST_BOUND rfl)) (sa_cons (se_gint rfl x.i_MOST_BOUND rfl) sa_nil rfl) rfl) rfl) rfl rfl rfl)))))))
theorem sc_is_tree : FnScope ["value", "depth", "word", "parts", "part"] ["value", "depth"] (defScope s_is_tree) := ⟨rfl, rfl, rfl, by decide +kernel, rfl, by decide +kernel, by decide +kernel⟩
theorem ok_is_tree (x : Fcts P K w mg) : ∀ n : Nat, Fk P w K mg base (cl K) (4 + n) (He.fAd K ("is_tree", none)) ["value", "depth"] (sm_is_tree n)
  | 0 => (Fk.zero (N := []) (fun _ _ => rfl) x.d_is_tree (fun _ _ _ _ _ _ us hl => match us, hl with | [_, _], _ => rfl)).mono (Nat.zero_le _)
  | n + 1 => (fun (ih : Fk P w K mg base (cl K) (4 + n) (He.fAd K ("is_tree", none)) ["value", "depth"] (sm_is_tree n)) => Fk.of x.d_is_tree sc_is_tree (fun _ _ _ _ _ _ us hl => match us, hl with | [_, _], _ => rfl) fun cd A outer s H E g hr => (ss_cons (ss_if (sw_pt (sw_or (st_not (st_tru g (se_isi g (by decide) rfl x.b_isinstance rfl x.b_tuple (by decide +kernel) (by decide +kernel) rfl (v (i := 0) rfl rfl rfl) rfl rfl rfl) (fun _ => rfl))) (sw_or (st_eq g (v (i := 0) rfl rfl rfl) (se_tup sa_nil) rfl) (sw_or (st_not (st_tru g (se_isi g (by decide) rfl x.b_isinstance rfl x.b_str (by decide +kernel) (by decide +kernel) rfl (ixK g (fun _ _ => rfl) (v (i := 0) rfl rfl rfl) se_int) rfl rfl rfl) (fun _ => rfl))) (sw_or1 (st_gt (v (i := 1) rfl rfl rfl) (se_gint rfl x.i_MOST_DEPTH rfl) rfl)))))) (ss_one (ss_ret se_bl)) ss_nil)
    (ss_cons (ss_star g (i := 2) (j := 3) rfl rfl (loc_ok rfl) (loc_ok rfl) (.inl rfl) (.inl rfl) (v (i := 0) rfl rfl rfl) rfl rfl rfl rfl)
    (ss_cons (ss_if (st_eq g (v (i := 2) rfl rfl rfl) se_str rfl) (ss_one (ss_ret (se_and (se_eq g (se_callB call_lenA vLen_ok rfl x.b_len (by decide +kernel) (sa_cons (v (i := 3) rfl rfl rfl) sa_nil rfl) (by decide +kernel) rfl rfl rfl) se_int rfl) (se_one (callK ih g hr rfl x.g_is_tree (sa_cons (ixK g (fun _ _ => rfl) (v (i := 3) rfl rfl rfl) se_int) (sa_cons (se_add g (v (i := 1) rfl rfl rfl) se_int) sa_nil rfl) rfl) rfl rfl rfl))))) ss_nil)
    (ss_cons (ss_if (st_in g (v (i := 2) rfl rfl rfl) (se_tup (sa_cons se_str (sa_cons se_str sa_nil rfl) rfl)) rfl) (ss_one (ss_ret (se_and (se_chain op_le op_le vLe_ok vLe_ok se_int (se_callB call_lenA vLen_ok rfl x.b_len (by decide +kernel) (sa_cons (v (i := 3) rfl rfl rfl) sa_nil rfl) (by decide +kernel) rfl rfl rfl) (se_gint rfl x.i_MOST_PARTS rfl) (by with_unfolding_all rfl)) (se_one (se_callB (call_allG g.hc) vAnyG_ok rfl x.b_all (by decide +kernel) (sa_cons (se_lc g finP_ok (own := [("part", 4)]) (by kernel_rfl) rfl (si_of g (v (i := 3) rfl rfl rfl)) (by decide +kernel) (fun _ => (sg_name (GX.blk g) (i := 4) rfl (loc_ok rfl) (by first | exact .inl rfl | exact .inr rfl))) (fun _ => sts_nil) (fun _ => (callK ih (GX.blk g) hr rfl x.g_is_tree (sa_cons (v (i := 4) rfl rfl rfl) (sa_cons (se_add (GX.blk g) (v (i := 1) rfl rfl rfl) se_int) sa_nil rfl) rfl) rfl rfl rfl)) (fun _ => rfl)) sa_nil rfl) (by decide +kernel) rfl rfl rfl))))) ss_nil)
    (ss_one (ss_ret (callK (ok_is_atom x) g (hr.mono (by omega)) rfl x.g_is_atom (sa_cons (v (i := 0) rfl rfl rfl) sa_nil rfl) rfl rfl rfl)))))))) (ok_is_tree x n)
theorem sc_atoms_in : FnScope ["tree", "part", "atom"] ["tree"] (defScope s_atoms_in) := ⟨rfl, rfl, rfl, by decide +kernel, rfl, by decide +kernel, by decide +kernel⟩
theorem ok_atoms_in (x : Fcts P K w mg) : ∀ n : Nat, Fk P w K mg base (cl K) (0 + n) (He.fAd K ("atoms_in", none)) ["tree"] (sm_atoms_in n)
  | 0 => (Fk.zero (N := []) (fun _ _ => rfl) x.d_atoms_in (fun _ _ _ _ _ _ us hl => match us, hl with | [_], _ => rfl)).mono (Nat.zero_le _)
  | n + 1 => (fun (ih : Fk P w K mg base (cl K) (0 + n) (He.fAd K ("atoms_in", none)) ["tree"] (sm_atoms_in n)) => Fk.of x.d_atoms_in sc_atoms_in (fun _ _ _ _ _ _ us hl => match us, hl with | [_], _ => rfl) fun cd A outer s H E g hr => (ss_cons (ss_if (st_in g (ixK g (fun _ _ => rfl) (v (i := 0) rfl rfl rfl) se_int) (se_tup (sa_cons se_str (sa_cons se_str (sa_cons se_str sa_nil rfl) rfl) rfl)) rfl) (ss_one (ss_ret (se_lc2 g finP_ok (own := [("part", 1), ("atom", 2)]) (by kernel_rfl) rfl (si_of g (se_sl g (v (i := 0) rfl rfl rfl) (so_some se_int) so_none)) (by decide +kernel) (by decide +kernel) (by decide +kernel) (fun _ => (sg_name (GX.blk g) (i := 1) rfl (loc_ok rfl) (by first | exact .inl rfl | exact .inr rfl))) (fun _ => sts_nil) (fun _ => (si_of (GX.blk g) (callK ih (GX.blk g) hr rfl x.g_atoms_in (sa_cons (v (i := 1) rfl rfl rfl) sa_nil rfl) rfl rfl rfl))) (fun _ => (sg_name (GX.blk g) (i := 2) rfl (loc_ok rfl) (by first | exact .inl rfl | exact .inr rfl))) (fun _ => sts_nil) (fun _ => (v (i := 2) rfl rfl rfl)) (fun _ => rfl) (fun _ _ => rfl)))) ss_nil)
    (ss_one (ss_ret (se_lst (sa_cons (v (i := 0) rfl rfl rfl) sa_nil rfl)))))) (ok_atoms_in x n)
theorem sc_sum_text : FnScope ["factors", "found", "factor", "letter", "sign", "lead"] ["factors"] (defScope s_sum_text) := ⟨rfl, rfl, rfl, by decide +kernel, rfl, by decide +kernel, by decide +kernel⟩
theorem ok_sum_text (x : Fcts P K w mg) : Fk P w K mg base (cl K) 1 (He.fAd K ("sum_text", none)) ["factors"] sm_sum_text := Fk.of x.d_sum_text sc_sum_text (fun _ _ _ _ _ _ us hl => match us, hl with | [_], _ => rfl) fun cd A outer s H E g hr => (ss_cons (ss_set g (i := 1) rfl (loc_ok rfl) se_str rfl (.inl rfl))
    (ss_cons (ss_for PassesOwn.never g (si_zipA g rfl x.b_zip (v (i := 0) rfl rfl rfl) se_str rfl rfl rfl) (sg_tup g (sgs_cons (sg_name g (i := 2) rfl (loc_ok rfl) (.inl rfl)) (sgs_cons (sg_name g (i := 3) rfl (loc_ok rfl) (.inl rfl)) sgs_nil rfl) rfl) rfl rfl rfl) (ss_cons (ss_if (st_eq g (v (i := 2) rfl rfl rfl) se_int rfl) (ss_one ss_cont) ss_nil)
    (ss_cons (ss_set g (i := 4) rfl (loc_ok rfl) (se_if (st_lt (v (i := 2) rfl rfl rfl) se_int rfl) se_str se_str) rfl (.inl rfl))
    (ss_cons (ss_set g (i := 5) rfl (loc_ok rfl) (se_if (st_ne g (v (i := 1) rfl rfl rfl) se_str rfl) (se_js (SJ.cons se_str (SJ.cons (se_fmt (v (i := 4) rfl rfl rfl)) (SJ.cons se_str SJ.nil)))) (se_if (st_lt (v (i := 2) rfl rfl rfl) se_int rfl) se_str se_str)) rfl (.inl rfl))
    (ss_one (ss_set g (i := 1) rfl (loc_ok rfl) (se_add g (se_add g (v (i := 1) rfl rfl rfl) (v (i := 5) rfl rfl rfl)) (se_if (st_eq g (se_callB call_abs vAbs_ok rfl x.b_abs (by decide +kernel) (sa_cons (v (i := 2) rfl rfl rfl) sa_nil rfl) (by decide +kernel) rfl rfl rfl) se_int rfl) (v (i := 3) rfl rfl rfl) (se_js (SJ.cons (se_fmt (se_callB call_abs vAbs_ok rfl x.b_abs (by decide +kernel) (sa_cons (v (i := 2) rfl rfl rfl) sa_nil rfl) (by decide +kernel) rfl rfl rfl)) (SJ.cons se_str (SJ.cons (se_fmt (v (i := 3) rfl rfl rfl)) SJ.nil)))))) rfl (.inl rfl)))))) (fun _ => rfl))
    (ss_one (ss_ret (v (i := 1) rfl rfl rfl)))))
theorem sc_tree_text : FnScope ["tree", "word", "parts", "inner", "texts", "part"] ["tree"] (defScope s_tree_text) := ⟨rfl, rfl, rfl, by decide +kernel, rfl, by decide +kernel, by decide +kernel⟩
theorem ok_tree_text (x : Fcts P K w mg) : ∀ n : Nat, Fk P w K mg base (cl K) (1 + n) (He.fAd K ("tree_text", none)) ["tree"] (sm_tree_text n)
  | 0 => (Fk.zero (N := []) (fun _ _ => rfl) x.d_tree_text (fun _ _ _ _ _ _ us hl => match us, hl with | [_], _ => rfl)).mono (Nat.zero_le _)
  | n + 1 => (fun (ih : Fk P w K mg base (cl K) (1 + n) (He.fAd K ("tree_text", none)) ["tree"] (sm_tree_text n)) => Fk.of x.d_tree_text sc_tree_text (fun _ _ _ _ _ _ us hl => match us, hl with | [_], _ => rfl) fun cd A outer s H E g hr => (ss_cons (ss_star g (i := 1) (j := 2) rfl rfl (loc_ok rfl) (loc_ok rfl) (.inl rfl) (.inl rfl) (v (i := 0) rfl rfl rfl) rfl rfl rfl rfl)
    (ss_cons (ss_if (st_eq g (v (i := 1) rfl rfl rfl) se_str rfl) (ss_one (ss_ret (se_js (SJ.cons (se_fmt (callK (ok_sum_text x) g (hr.mono (by omega)) rfl x.g_sum_text (sa_cons (ixK g (fun _ _ => rfl) (v (i := 2) rfl rfl rfl) se_int) sa_nil rfl) rfl rfl rfl)) (SJ.cons se_str (SJ.cons (se_fmt (ixK g (fun _ _ => rfl) (v (i := 2) rfl rfl rfl) se_int)) (SJ.cons se_str (SJ.cons (se_fmt (ixK g (fun _ _ => rfl) (v (i := 2) rfl rfl rfl) se_int)) SJ.nil)))))))) ss_nil)
    (ss_cons (ss_if (st_inT g x.t_SIGNS_OF rfl x.g_SIGNS_OF rfl (v (i := 1) rfl rfl rfl)) (ss_one (ss_ret (se_js (SJ.cons (se_fmt (callK (ok_sum_text x) g (hr.mono (by omega)) rfl x.g_sum_text (sa_cons (ixK g (fun _ _ => rfl) (v (i := 2) rfl rfl rfl) se_int) sa_nil rfl) rfl rfl rfl)) (SJ.cons se_str (SJ.cons (se_fmt (se_getT g x.t_SIGNS_OF rfl x.g_SIGNS_OF rfl (fun _ _ => rfl) (v (i := 1) rfl rfl rfl))) (SJ.cons se_str (SJ.cons (se_fmt (ixK g (fun _ _ => rfl) (v (i := 2) rfl rfl rfl) se_int)) SJ.nil)))))))) ss_nil)
    (ss_cons (ss_set g (i := 3) rfl (loc_ok rfl) (se_dget g (fun _ _ => rfl) (se_disp (SJ.cons (se_tup (sa_cons se_str (sa_cons se_str sa_nil rfl) rfl)) (SJ.cons (se_tup (sa_cons se_str (sa_cons se_str sa_nil rfl) rfl)) (SJ.cons (se_tup (sa_cons se_str sa_nil rfl)) SJ.nil))) (Paired.cons ⟨_, _, rfl⟩ (Paired.cons ⟨_, _, rfl⟩ (Paired.cons ⟨_, _, rfl⟩ Paired.nil))) rfl (by decide +kernel) (by simp) (by decide) rfl) (v (i := 1) rfl rfl rfl)) rfl (.inl rfl))
    (ss_cons (ss_setLc g finP_ok rfl rfl (sw_true rfl rfl rfl rfl) (own := [("part", 5)]) (by kernel_rfl) rfl (si_of g (v (i := 2) rfl rfl rfl)) (by decide +kernel) (fun _ => (sg_name (GX.blk g) (i := 5) rfl (loc_ok rfl) (by first | exact .inl rfl | exact .inr rfl))) (fun _ => sts_nil) (fun _ => (se_if (st_in (GX.blk g) (ixK (GX.blk g) (fun _ _ => rfl) (v (i := 5) rfl rfl rfl) se_int) (v (i := 3) rfl rfl rfl) rfl) (se_js (SJ.cons se_str (SJ.cons (se_fmt (callK ih (GX.blk g) hr rfl x.g_tree_text (sa_cons (v (i := 5) rfl rfl rfl) sa_nil rfl) rfl rfl rfl)) (SJ.cons se_str SJ.nil)))) (callK ih (GX.blk g) hr rfl x.g_tree_text (sa_cons (v (i := 5) rfl rfl rfl) sa_nil rfl) rfl rfl rfl))) (fun _ => rfl))
    (ss_one (ss_ret (se_if (st_eq g (v (i := 1) rfl rfl rfl) se_str rfl) (se_js (SJ.cons se_str (SJ.cons (se_fmt (ixK g (fun _ _ => rfl) (v (i := 4) rfl rfl rfl) se_int)) SJ.nil))) (se_bm g F.plainAttrs_str F.slot_str_join F.type_str_join mt_join vJoin_ok (se_js (SJ.cons se_str (SJ.cons (se_fmt (v (i := 1) rfl rfl rfl)) (SJ.cons se_str SJ.nil)))) (sa_cons (v (i := 4) rfl rfl rfl) sa_nil rfl) rfl rfl rfl rfl rfl)))))))))) (ok_tree_text x n)
-- raises ['InvalidQuestion', 'TooMany']
theorem sc_Question_init : FnScope ["self", "tree"] ["self", "tree"] (defScope s_Question_init) := ⟨rfl, rfl, rfl, by decide +kernel, rfl, by decide +kernel, by decide +kernel⟩
theorem ok_Question_init (x : Fcts P K w mg) : Xk P w K mg base (cl K) 17 (He.fAd K ("Question", some "__init__")) ["self", "tree"] sm_Question_init_v1 := Xk.of x.d_Question_init sc_Question_init (fun _ _ _ _ _ _ us hl => match us, hl with | [_, _], _ => rfl) fun cd A outer s H E g tk hr => (ss_cons (ss_if (st_not (st_tru g (callK (ok_is_tree x 12) g (hr.mono (by decide)) rfl x.g_is_tree (sa_cons (v (i := 1) rfl rfl rfl) (sa_cons se_int sa_nil rfl) rfl) rfl rfl rfl) (fun _ => rfl))) (ss_one (ss_raise0 (ex_InvalidQuestion x) g tk (hr.mono (by decide)) rfl x.g_InvalidQuestion (by decide +kernel))) ss_nil)
    (ss_cons (ss_if (st_gt (se_callB call_lenA vLen_ok rfl x.b_len (by decide +kernel) (sa_cons (callK (ok_atoms_in x 12) g (hr.mono (by decide)) rfl x.g_atoms_in (sa_cons (v (i := 1) rfl rfl rfl) sa_nil rfl) rfl rfl rfl) sa_nil rfl) (by decide +kernel) rfl rfl rfl) (se_gint rfl x.i_MOST_ATOMS rfl) rfl) (ss_one (ss_raise1 (ex_TooMany x) g tk (hr.mono (by decide)) rfl x.g_TooMany (se_gint rfl x.i_MOST_ATOMS rfl) (by decide +kernel) rfl rfl)) ss_nil)
    (ss_cons (ss_setF g (fld1 x.f_Question_shape) clsm (v (i := 0) rfl rfl rfl) (v (i := 1) rfl rfl rfl) rfl)
    (ss_cons (ss_setF g (fld1 x.f_Question_leaves) clsm (v (i := 0) rfl rfl rfl) (callK (ok_atoms_in x 12) g (hr.mono (by decide)) rfl x.g_atoms_in (sa_cons (v (i := 1) rfl rfl rfl) sa_nil rfl) rfl rfl rfl) rfl)
    (ss_one (ss_setF g (fld1 x.f_Question_written) clsm (v (i := 0) rfl rfl rfl) (callK (ok_tree_text x 12) g (hr.mono (by decide)) rfl x.g_tree_text (sa_cons (v (i := 1) rfl rfl rfl) sa_nil rfl) rfl rfl rfl) rfl))))))
theorem sc_law_same : FnScope ["_law_found", "_law_due", "_law_one", "_law_other"] ["_law_found", "_law_due"] (defScope s_law_same) := ⟨rfl, rfl, rfl, by decide +kernel, rfl, by decide +kernel, by decide +kernel⟩
theorem ok_law_same (x : Fcts P K w mg) : ∀ n : Nat, Fk P w K mg base (cl K) (0 + n) (He.fAd K ("_law_same", none)) ["_law_found", "_law_due"] (sm_law_same n)
  | 0 => (Fk.zero (N := []) (fun _ _ => rfl) x.d_law_same (fun _ _ _ _ _ _ us hl => match us, hl with | [_, _], _ => rfl)).mono (Nat.zero_le _)
  | n + 1 => (fun (ih : Fk P w K mg base (cl K) (0 + n) (He.fAd K ("_law_same", none)) ["_law_found", "_law_due"] (sm_law_same n)) => Fk.of x.d_law_same sc_law_same (fun _ _ _ _ _ _ us hl => match us, hl with | [_, _], _ => rfl) fun cd A outer s H E g hr => (ss_cons (ss_if (sw_pt (sw_or (st_tru g (se_isi g (by decide) rfl x.b_isinstance rfl x.b_list (by decide +kernel) (by decide +kernel) rfl (v (i := 1) rfl rfl rfl) rfl rfl rfl) (fun _ => rfl)) (sw_or1 (st_tru g (se_isi g (by decide) rfl x.b_isinstance rfl x.b_tuple (by decide +kernel) (by decide +kernel) rfl (v (i := 1) rfl rfl rfl) rfl rfl rfl) (fun _ => rfl))))) (ss_cons (ss_if (sw_pt (sw_or (st_ne g (se_isi g (by decide) rfl x.b_isinstance rfl x.b_list (by decide +kernel) (by decide +kernel) rfl (v (i := 0) rfl rfl rfl) rfl rfl rfl) (se_isi g (by decide) rfl x.b_isinstance rfl x.b_list (by decide +kernel) (by decide +kernel) rfl (v (i := 1) rfl rfl rfl) rfl rfl rfl) rfl) (sw_or1 (st_ne g (se_isi g (by decide) rfl x.b_isinstance rfl x.b_tuple (by decide +kernel) (by decide +kernel) rfl (v (i := 0) rfl rfl rfl) rfl rfl rfl) (se_isi g (by decide) rfl x.b_isinstance rfl x.b_tuple (by decide +kernel) (by decide +kernel) rfl (v (i := 1) rfl rfl rfl) rfl rfl rfl) rfl)))) (ss_one (ss_ret se_bl)) ss_nil)
    (ss_one (ss_ret (se_and (se_eq g (se_callB call_lenA vLen_ok rfl x.b_len (by decide +kernel) (sa_cons (v (i := 0) rfl rfl rfl) sa_nil rfl) (by decide +kernel) rfl rfl rfl) (se_callB call_lenA vLen_ok rfl x.b_len (by decide +kernel) (sa_cons (v (i := 1) rfl rfl rfl) sa_nil rfl) (by decide +kernel) rfl rfl rfl) rfl) (se_one (se_callB (call_allG g.hc) vAnyG_ok rfl x.b_all (by decide +kernel) (sa_cons (se_lc g finP_ok (own := [("_law_one", 2), ("_law_other", 3)]) (by kernel_rfl) rfl (si_zipA g rfl x.b_zip (v (i := 0) rfl rfl rfl) (v (i := 1) rfl rfl rfl) rfl rfl rfl) (by decide +kernel) (fun _ => (sg_tup (GX.blk g) (sgs_cons (sg_name (GX.blk g) (i := 2) rfl (loc_ok rfl) (by first | exact .inl rfl | exact .inr rfl)) (sgs_cons (sg_name (GX.blk g) (i := 3) rfl (loc_ok rfl) (by first | exact .inl rfl | exact .inr rfl)) sgs_nil rfl) rfl) rfl rfl rfl)) (fun _ => sts_nil) (fun _ => (callK ih (GX.blk g) hr rfl x.g__law_same (sa_cons (v (i := 2) rfl rfl rfl) (sa_cons (v (i := 3) rfl rfl rfl) sa_nil rfl) rfl) rfl rfl rfl)) (fun _ => rfl)) sa_nil rfl) (by decide +kernel) rfl rfl rfl)))))) ss_nil)
    (ss_cons (ss_if (sw_pt (sw_or (st_is (v (i := 1) rfl rfl rfl) se_non rfl) (sw_or1 (st_is (v (i := 0) rfl rfl rfl) se_non rfl)))) (ss_one (ss_ret (se_and (se_is (v (i := 1) rfl rfl rfl) se_non rfl) (se_one (se_is (v (i := 0) rfl rfl rfl) se_non rfl))))) ss_nil)
    (ss_cons (ss_if (sw_pt (sw_or (st_ne g (se_isi g (by decide) rfl x.b_isinstance rfl x.b_bool (by decide +kernel) (by decide +kernel) rfl (v (i := 0) rfl rfl rfl) rfl rfl rfl) (se_isi g (by decide) rfl x.b_isinstance rfl x.b_bool (by decide +kernel) (by decide +kernel) rfl (v (i := 1) rfl rfl rfl) rfl rfl rfl) rfl) (sw_or1 (st_ne g (se_isi g (by decide) rfl x.b_isinstance rfl x.b_int (by decide +kernel) (by decide +kernel) rfl (v (i := 0) rfl rfl rfl) rfl rfl rfl) (se_isi g (by decide) rfl x.b_isinstance rfl x.b_int (by decide +kernel) (by decide +kernel) rfl (v (i := 1) rfl rfl rfl) rfl rfl rfl) rfl)))) (ss_one (ss_ret se_bl)) ss_nil)
    (ss_one (ss_ret (se_and (se_eq g (se_isi g (by decide) rfl x.b_isinstance rfl x.b_str (by decide +kernel) (by decide +kernel) rfl (v (i := 0) rfl rfl rfl) rfl rfl rfl) (se_isi g (by decide) rfl x.b_isinstance rfl x.b_str (by decide +kernel) (by decide +kernel) rfl (v (i := 1) rfl rfl rfl) rfl rfl rfl) rfl) (se_one (se_eq g (v (i := 0) rfl rfl rfl) (v (i := 1) rfl rfl rfl) rfl))))))))) (ok_law_same x n)
theorem sc_law_twos : FnScope ["_law_many", "_law_found", "_law_k"] ["_law_many"] (defScope s_law_twos) := ⟨rfl, rfl, rfl, by decide +kernel, rfl, by decide +kernel, by decide +kernel⟩
theorem ok_law_twos (x : Fcts P K w mg) : Fk P w K mg base (cl K) 1 (He.fAd K ("_law_twos", none)) ["_law_many"] sm_law_twos := Fk.of x.d_law_twos sc_law_twos (fun _ _ _ _ _ _ us hl => match us, hl with | [_], _ => rfl) fun cd A outer s H E g hr => (ss_cons (ss_set g (i := 1) rfl (loc_ok rfl) se_int rfl (.inl rfl))
    (ss_cons (ss_for PassesOwn.never g (si_rng1 rfl x.b_range (v (i := 0) rfl rfl rfl) rfl) (sg_name g (i := 2) rfl (loc_ok rfl) (.inl rfl)) (ss_one (ss_set g (i := 1) rfl (loc_ok rfl) (se_mulI (v (i := 1) rfl rfl rfl) se_int) rfl (.inl rfl))) (fun _ => rfl))
    (ss_one (ss_ret (v (i := 1) rfl rfl rfl)))))
theorem sc_law_atoms : FnScope ["_law_tree_here", "_law_found", "_law_part"] ["_law_tree_here"] (defScope s_law_atoms) := ⟨rfl, rfl, rfl, by decide +kernel, rfl, by decide +kernel, by decide +kernel⟩
theorem ok_law_atoms (x : Fcts P K w mg) : ∀ n : Nat, Fk P w K mg base (cl K) (0 + n) (He.fAd K ("_law_atoms", none)) ["_law_tree_here"] (sm_law_atoms n)
  | 0 => (Fk.zero (N := []) (fun _ _ => rfl) x.d_law_atoms (fun _ _ _ _ _ _ us hl => match us, hl with | [_], _ => rfl)).mono (Nat.zero_le _)
  | n + 1 => (fun (ih : Fk P w K mg base (cl K) (0 + n) (He.fAd K ("_law_atoms", none)) ["_law_tree_here"] (sm_law_atoms n)) => Fk.of x.d_law_atoms sc_law_atoms (fun _ _ _ _ _ _ us hl => match us, hl with | [_], _ => rfl) fun cd A outer s H E g hr => (ss_cons (ss_if (st_notIn g (ixK g (fun _ _ => rfl) (v (i := 0) rfl rfl rfl) se_int) (se_lst (sa_cons se_str (sa_cons se_str (sa_cons se_str sa_nil rfl) rfl) rfl)) rfl) (ss_one (ss_ret (se_lst (sa_cons (v (i := 0) rfl rfl rfl) sa_nil rfl)))) ss_nil)
    (ss_cons (ss_set g (i := 1) rfl (loc_ok rfl) (se_lst sa_nil) rfl (.inl rfl))
    (ss_cons (ss_for PassesOwn.never g (si_of g (se_sl g (v (i := 0) rfl rfl rfl) (so_some se_int) so_none)) (sg_name g (i := 2) rfl (loc_ok rfl) (.inl rfl)) (ss_one (ss_set g (i := 1) rfl (loc_ok rfl) (se_add g (v (i := 1) rfl rfl rfl) (callK ih g hr rfl x.g__law_atoms (sa_cons (v (i := 2) rfl rfl rfl) sa_nil rfl) rfl rfl rfl)) rfl (.inl rfl))) (fun _ => rfl))
    (ss_one (ss_ret (v (i := 1) rfl rfl rfl))))))) (ok_law_atoms x n)
theorem sc_law_value : FnScope ["_law_factors", "_law_counts_z", "_law_factor", "_law_many"] ["_law_factors", "_law_counts_z"] (defScope s_law_value) := ⟨rfl, rfl, rfl, by decide +kernel, rfl, by decide +kernel, by decide +kernel⟩
theorem ok_law_value (x : Fcts P K w mg) : Fk P w K mg base (cl K) 1 (He.fAd K ("_law_value", none)) ["_law_factors", "_law_counts_z"] sm_law_value := Fk.of x.d_law_value sc_law_value (fun _ _ _ _ _ _ us hl => match us, hl with | [_, _], _ => rfl) fun cd A outer s H E g hr => (ss_one (ss_ret (se_callB (call_sumA g.hc) vSumS_ok rfl x.b_sum (by decide +kernel) (sa_cons (se_lc g finP_ok (own := [("_law_factor", 2), ("_law_many", 3)]) (by kernel_rfl) rfl (si_zipA g rfl x.b_zip (v (i := 0) rfl rfl rfl) (v (i := 1) rfl rfl rfl) rfl rfl rfl) (by decide +kernel) (fun _ => (sg_tup (GX.blk g) (sgs_cons (sg_name (GX.blk g) (i := 2) rfl (loc_ok rfl) (by first | exact .inl rfl | exact .inr rfl)) (sgs_cons (sg_name (GX.blk g) (i := 3) rfl (loc_ok rfl) (by first | exact .inl rfl | exact .inr rfl)) sgs_nil rfl) rfl) rfl rfl rfl)) (fun _ => sts_nil) (fun _ => (se_mulI (v (i := 2) rfl rfl rfl) (v (i := 3) rfl rfl rfl))) (fun _ => rfl)) sa_nil rfl) (by decide +kernel) rfl rfl rfl)))
theorem sc_law_flags : FnScope ["_law_counts_z", "_law_many"] ["_law_counts_z"] (defScope s_law_flags) := ⟨rfl, rfl, rfl, by decide +kernel, rfl, by decide +kernel, by decide +kernel⟩
theorem ok_law_flags (x : Fcts P K w mg) : Fk P w K mg base (cl K) 1 (He.fAd K ("_law_flags", none)) ["_law_counts_z"] sm_law_flags := Fk.of x.d_law_flags sc_law_flags (fun _ _ _ _ _ _ us hl => match us, hl with | [_], _ => rfl) fun cd A outer s H E g hr => (ss_one (ss_ret (se_callT call_tuple_of vTupOf_ok rfl x.b_tuple (by decide +kernel) (sa_cons (se_lc g finP_ok (own := [("_law_many", 1)]) (by kernel_rfl) rfl (si_of g (v (i := 0) rfl rfl rfl)) (by decide +kernel) (fun _ => (sg_name (GX.blk g) (i := 1) rfl (loc_ok rfl) (by first | exact .inl rfl | exact .inr rfl))) (fun _ => sts_nil) (fun _ => (se_callT call_intA vInt_ok rfl x.b_int (by decide +kernel) (sa_cons (se_gt (v (i := 1) rfl rfl rfl) se_int rfl) sa_nil rfl) (by decide +kernel) rfl rfl rfl)) (fun _ => rfl)) sa_nil rfl) (by decide +kernel) rfl rfl rfl)))
theorem sc_law_state : FnScope ["_law_tree_here", "_law_counts_z", "_law_places_here", "_law_rows", "_law_unit", "_law_atom_here", "_law_value_here", "_law_less"] ["_law_tree_here", "_law_counts_z", "_law_places_here"] (defScope s_law_state) := ⟨rfl, rfl, rfl, by decide +kernel, rfl, by decide +kernel, by decide +kernel⟩
theorem ok_law_state (x : Fcts P K w mg) : Fk P w K mg base (cl K) 13 (He.fAd K ("_law_state", none)) ["_law_tree_here", "_law_counts_z", "_law_places_here"] sm_law_state := Fk.of x.d_law_state sc_law_state (fun _ _ _ _ _ _ us hl => match us, hl with | [_, _, _], _ => rfl) fun cd A outer s H E g hr => (ss_cons (ss_par g rfl rfl (by decide) rfl rfl (sa_cons (se_lstC sa_nil) (sa_cons (callK (ok_law_twos x) g (hr.mono (by decide)) rfl x.g__law_twos (sa_cons (v (i := 2) rfl rfl rfl) sa_nil rfl) rfl rfl rfl) sa_nil rfl) rfl) rfl rfl)
    (ss_cons (ss_for PassesOwn.never g (si_of g (callK (ok_law_atoms x 12) g (hr.mono (by decide)) rfl x.g__law_atoms (sa_cons (v (i := 0) rfl rfl rfl) sa_nil rfl) rfl rfl rfl)) (sg_name g (i := 5) rfl (loc_ok rfl) (.inl rfl)) (ss_cons (ss_set g (i := 6) rfl (loc_ok rfl) (callK (ok_law_value x) g (hr.mono (by decide)) rfl x.g__law_value (sa_cons (ixK g (fun _ _ => rfl) (v (i := 5) rfl rfl rfl) se_int) (sa_cons (v (i := 1) rfl rfl rfl) sa_nil rfl) rfl) rfl rfl rfl) rfl (.inl rfl))
    (ss_one (ss_if (st_eq g (ixK g (fun _ _ => rfl) (v (i := 5) rfl rfl rfl) se_int) se_str rfl) (ss_one (ss_expr (se_bm g F.plainAttrs_list F.slot_list_append F.type_list_append mt_append vAppend_ok (v (i := 3) rfl rfl rfl) (sa_cons (se_tup (sa_cons (se_mod (se_callT call_intA vInt_ok rfl x.b_int (by decide +kernel) (sa_cons (v (i := 6) rfl rfl rfl) sa_nil rfl) (by decide +kernel) rfl rfl rfl) (ixK g (fun _ _ => rfl) (v (i := 5) rfl rfl rfl) se_int)) (sa_cons (se_mod (se_callT call_intA vInt_ok rfl x.b_int (by decide +kernel) (sa_cons (v (i := 4) rfl rfl rfl) sa_nil rfl) (by decide +kernel) rfl rfl rfl) (ixK g (fun _ _ => rfl) (v (i := 5) rfl rfl rfl) se_int)) sa_nil rfl) rfl)) sa_nil rfl) rfl rfl rfl rfl rfl) rfl)) (ss_cons (ss_set g (i := 7) rfl (loc_ok rfl) (se_sub (v (i := 6) rfl rfl rfl) (ixK g (fun _ _ => rfl) (v (i := 5) rfl rfl rfl) se_int)) rfl (.inl rfl))
    (ss_one (ss_expr (se_bm g F.plainAttrs_list F.slot_list_append F.type_list_append mt_append vAppend_ok (v (i := 3) rfl rfl rfl) (sa_cons (se_tup (sa_cons (se_fdv (v (i := 7) rfl rfl rfl) (v (i := 4) rfl rfl rfl)) (sa_cons (se_callT call_intA vInt_ok rfl x.b_int (by decide +kernel) (sa_cons (se_eq g (se_mod (se_callT call_intA vInt_ok rfl x.b_int (by decide +kernel) (sa_cons (v (i := 7) rfl rfl rfl) sa_nil rfl) (by decide +kernel) rfl rfl rfl) (v (i := 4) rfl rfl rfl)) se_int rfl) sa_nil rfl) (by decide +kernel) rfl rfl rfl) (sa_cons (se_fdv (v (i := 6) rfl rfl rfl) (v (i := 4) rfl rfl rfl)) (sa_cons (se_callT call_intA vInt_ok rfl x.b_int (by decide +kernel) (sa_cons (se_eq g (se_mod (se_callT call_intA vInt_ok rfl x.b_int (by decide +kernel) (sa_cons (v (i := 6) rfl rfl rfl) sa_nil rfl) (by decide +kernel) rfl rfl rfl) (v (i := 4) rfl rfl rfl)) se_int rfl) sa_nil rfl) (by decide +kernel) rfl rfl rfl) sa_nil rfl) rfl) rfl) rfl)) sa_nil rfl) rfl rfl rfl rfl rfl) rfl)))))) (fun _ => rfl))
    (ss_one (ss_ret (se_tup (sa_cons (se_callT call_tuple_of vTupOf_ok rfl x.b_tuple (by decide +kernel) (sa_cons (v (i := 3) rfl rfl rfl) sa_nil rfl) (by decide +kernel) rfl rfl rfl) (sa_cons (callK (ok_law_flags x) g (hr.mono (by decide)) rfl x.g__law_flags (sa_cons (v (i := 1) rfl rfl rfl) sa_nil rfl) rfl rfl rfl) sa_nil rfl) rfl))))))
theorem sc_first_row : FnScope ["atom"] ["atom"] (defScope s_first_row) := ⟨rfl, rfl, rfl, by decide +kernel, rfl, by decide +kernel, by decide +kernel⟩
theorem ok_first_row (x : Fcts P K w mg) : Fk P w K mg base (cl K) 1 (He.fAd K ("first_row", none)) ["atom"] sm_first_row := Fk.of x.d_first_row sc_first_row (fun _ _ _ _ _ _ us hl => match us, hl with | [_], _ => rfl) fun cd A outer s H E g hr => (ss_cons (ss_if (st_eq g (ixK g (fun _ _ => rfl) (v (i := 0) rfl rfl rfl) se_int) se_str rfl) (ss_one (ss_ret (se_tup (sa_cons se_int (sa_cons se_int sa_nil rfl) rfl)))) ss_nil)
    (ss_one (ss_ret (se_tup (sa_cons (se_sub se_int (ixK g (fun _ _ => rfl) (v (i := 0) rfl rfl rfl) se_int)) (sa_cons se_int (sa_cons se_int (sa_cons se_int sa_nil rfl) rfl) rfl) rfl)))))
theorem sc_Reading_start : FnScope ["self", "atom"] ["self"] (defScope s_Reading_start) := ⟨rfl, rfl, rfl, by decide +kernel, rfl, by decide +kernel, by decide +kernel⟩
theorem ok_Reading_start (x : Fcts P K w mg) : Fk P w K mg base (cl K) 2 (He.fAd K ("Reading", some "start")) ["self"] sm_Reading_start := Fk.of x.d_Reading_start sc_Reading_start (fun _ _ _ _ _ _ us hl => match us, hl with | [_], _ => rfl) fun cd A outer s H E g hr => (ss_one (ss_ret (se_tup (sa_cons (se_callT call_tuple_of vTupOf_ok rfl x.b_tuple (by decide +kernel) (sa_cons (se_lc g finP_ok (own := [("atom", 1)]) (by kernel_rfl) rfl (si_of g (se_fld g (fld1 x.f_Reading_leaves) (v (i := 0) rfl rfl rfl) rfl)) (by decide +kernel) (fun _ => (sg_name (GX.blk g) (i := 1) rfl (loc_ok rfl) (by first | exact .inl rfl | exact .inr rfl))) (fun _ => sts_nil) (fun _ => (callK (ok_first_row x) (GX.blk g) (hr.mono (by decide)) rfl x.g_first_row (sa_cons (v (i := 1) rfl rfl rfl) sa_nil rfl) rfl rfl rfl)) (fun _ => rfl)) sa_nil rfl) (by decide +kernel) rfl rfl rfl) (sa_cons (se_tup (sa_cons se_int (sa_cons se_int (sa_cons se_int sa_nil rfl) rfl) rfl)) sa_nil rfl) rfl))))
theorem sc_Reading_question : FnScope ["self"] ["self"] (defScope s_Reading_question) := ⟨rfl, rfl, rfl, by decide +kernel, rfl, by decide +kernel, by decide +kernel⟩
theorem ok_Reading_question (x : Fcts P K w mg) : Fk P w K mg base (cl K) 1 ((propGet K (He.ga K "Reading") "question").2) ["self"] sm_Reading_question := Fk.of x.d_Reading_question sc_Reading_question (fun _ _ _ _ _ _ us hl => match us, hl with | [_], _ => rfl) fun cd A outer s H E g hr => (ss_one (ss_ret (se_fld g (fld1 x.f_Reading_asked) (v (i := 0) rfl rfl rfl) rfl)))
theorem pk_Reading_question (x : Fcts P K w mg) : Pk P w K mg base (cl K) 1 (He.ga K "Reading") "question" sm_Reading_question := Pk.of x.p_Reading_question (ok_Reading_question x)
theorem sc_Question_eq : FnScope ["self", "other"] ["self", "other"] (defScope s_Question_eq) := ⟨rfl, rfl, rfl, by decide +kernel, rfl, by decide +kernel, by decide +kernel⟩
theorem ok_Question_eq (x : Fcts P K w mg) : Fk P w K mg base (cl K) 1 (He.fAd K ("Question", some "__eq__")) ["self", "other"] sm_Question_eq := Fk.of x.d_Question_eq sc_Question_eq (fun _ _ _ _ _ _ us hl => match us, hl with | [_, _], _ => rfl) fun cd A outer s H E g hr => (ss_one (ss_ret (se_and (isoK g rfl x.iso_Question (insB_ok x.c_Question x.ins_Question) (fun _ h => by cases h) rfl x.b_isinstance rfl x.g_Question (by decide +kernel) (v (i := 1) rfl rfl rfl) rfl rfl rfl) (se_one (se_eq g (se_fld g (fld1 x.f_Question_shape) (v (i := 0) rfl rfl rfl) rfl) (se_fld g (fld1 x.f_Question_shape) (v (i := 1) rfl rfl rfl) rfl) rfl)))))
theorem sc_law_some_counts : FnScope ["_law_bag_here", "_law_letter"] ["_law_bag_here"] (defScope s_law_some_counts) := ⟨rfl, rfl, rfl, by decide +kernel, rfl, by decide +kernel, by decide +kernel⟩
theorem ok_law_some_counts (x : Fcts P K w mg) : Fk P w K mg base (cl K) 3 (He.fAd K ("_law_some_counts", none)) ["_law_bag_here"] sm_law_some_counts := Fk.of x.d_law_some_counts sc_law_some_counts (fun _ _ _ _ _ _ us hl => match us, hl with | [_], _ => rfl) fun cd A outer s H E g hr => (ss_one (ss_ret (se_callT call_tuple_of vTupOf_ok rfl x.b_tuple (by decide +kernel) (sa_cons (se_lc g finP_ok (own := [("_law_letter", 1)]) (by kernel_rfl) rfl (si_of g se_str) (by decide +kernel) (fun _ => (sg_name (GX.blk g) (i := 1) rfl (loc_ok rfl) (by first | exact .inl rfl | exact .inr rfl))) (fun _ => sts_nil) (fun _ => (callK (ok_law_of x) (GX.blk g) (hr.mono (by decide)) rfl x.g__law_of (sa_cons (v (i := 0) rfl rfl rfl) (sa_cons (se_lst (sa_cons se_int (sa_cons se_int (sa_cons (callK (ok_law_pull x) (GX.blk g) (hr.mono (by decide)) rfl x.g__law_pull (sa_cons (v (i := 0) rfl rfl rfl) (sa_cons se_int sa_nil rfl) rfl) rfl rfl rfl) (sa_cons (callK (ok_law_pull x) (GX.blk g) (hr.mono (by decide)) rfl x.g__law_pull (sa_cons (v (i := 0) rfl rfl rfl) (sa_cons se_int sa_nil rfl) rfl) rfl rfl rfl) (sa_cons (callK (ok_law_pull x) (GX.blk g) (hr.mono (by decide)) rfl x.g__law_pull (sa_cons (v (i := 0) rfl rfl rfl) (sa_cons (se_pow se_int se_int) sa_nil rfl) rfl) rfl rfl rfl) sa_nil rfl) rfl) rfl) rfl) rfl)) sa_nil rfl) rfl) rfl rfl rfl)) (fun _ => rfl)) sa_nil rfl) (by decide +kernel) rfl rfl rfl)))
-- raises ['InvalidCounts']
theorem sc_need_counts : FnScope ["counts", "many"] ["counts"] (defScope s_need_counts) := ⟨rfl, rfl, rfl, by decide +kernel, rfl, by decide +kernel, by decide +kernel⟩
theorem ok_need_counts (x : Fcts P K w mg) : Xk P w K mg base (cl K) 3 (He.fAd K ("need_counts", none)) ["counts"] sm_need_counts_v1 := Xk.of x.d_need_counts sc_need_counts (fun _ _ _ _ _ _ us hl => match us, hl with | [_], _ => rfl) fun cd A outer s H E g tk hr => (ss_cons (ss_if (sw_pt (sw_or (st_not (st_tru g (se_isi g (by decide) rfl x.b_isinstance rfl x.b_tuple (by decide +kernel) (by decide +kernel) rfl (v (i := 0) rfl rfl rfl) rfl rfl rfl) (fun _ => rfl))) (sw_or1 (st_ne g (se_callB call_lenA vLen_ok rfl x.b_len (by decide +kernel) (sa_cons (v (i := 0) rfl rfl rfl) sa_nil rfl) (by decide +kernel) rfl rfl rfl) se_int rfl)))) (ss_one (ss_raise0 (ex_InvalidCounts x) g tk (hr.mono (by decide)) rfl x.g_InvalidCounts (by decide +kernel))) ss_nil)
    (ss_one (ss_if (st_not (st_tru g (se_callB (call_allG g.hc) vAnyG_ok rfl x.b_all (by decide +kernel) (sa_cons (se_lc g finP_ok (own := [("many", 1)]) (by kernel_rfl) rfl (si_of g (v (i := 0) rfl rfl rfl)) (by decide +kernel) (fun _ => (sg_name (GX.blk g) (i := 1) rfl (loc_ok rfl) (by first | exact .inl rfl | exact .inr rfl))) (fun _ => sts_nil) (fun _ => (se_and (callK (ok_is_number x) (GX.blk g) (hr.mono (by decide)) rfl x.g_is_number (sa_cons (v (i := 1) rfl rfl rfl) sa_nil rfl) rfl rfl rfl) (se_one (se_ge (v (i := 1) rfl rfl rfl) se_int rfl)))) (fun _ => rfl)) sa_nil rfl) (by decide +kernel) rfl rfl rfl) (fun _ => rfl))) (ss_one (ss_raise0 (ex_InvalidCounts x) g tk (hr.mono (by decide)) rfl x.g_InvalidCounts (by decide +kernel))) ss_nil)))
theorem sc_weighed : FnScope ["factors", "counts", "factor", "many"] ["factors", "counts"] (defScope s_weighed) := ⟨rfl, rfl, rfl, by decide +kernel, rfl, by decide +kernel, by decide +kernel⟩
theorem ok_weighed (x : Fcts P K w mg) : Fk P w K mg base (cl K) 1 (He.fAd K ("weighed", none)) ["factors", "counts"] sm_weighed := Fk.of x.d_weighed sc_weighed (fun _ _ _ _ _ _ us hl => match us, hl with | [_, _], _ => rfl) fun cd A outer s H E g hr => (ss_one (ss_ret (se_callB (call_sumA g.hc) vSumS_ok rfl x.b_sum (by decide +kernel) (sa_cons (se_lc g finP_ok (own := [("factor", 2), ("many", 3)]) (by kernel_rfl) rfl (si_zipA g rfl x.b_zip (v (i := 0) rfl rfl rfl) (v (i := 1) rfl rfl rfl) rfl rfl rfl) (by decide +kernel) (fun _ => (sg_tup (GX.blk g) (sgs_cons (sg_name (GX.blk g) (i := 2) rfl (loc_ok rfl) (by first | exact .inl rfl | exact .inr rfl)) (sgs_cons (sg_name (GX.blk g) (i := 3) rfl (loc_ok rfl) (by first | exact .inl rfl | exact .inr rfl)) sgs_nil rfl) rfl) rfl rfl rfl)) (fun _ => sts_nil) (fun _ => (se_mulI (v (i := 2) rfl rfl rfl) (v (i := 3) rfl rfl rfl))) (fun _ => rfl)) sa_nil rfl) (by decide +kernel) rfl rfl rfl)))
theorem sc_carried : FnScope ["rest", "exact", "gain", "whole"] ["rest", "exact", "gain"] (defScope s_carried) := ⟨rfl, rfl, rfl, by decide +kernel, rfl, by decide +kernel, by decide +kernel⟩
theorem ok_carried (x : Fcts P K w mg) : Fk P w K mg base (cl K) 1 (He.fAd K ("carried", none)) ["rest", "exact", "gain"] sm_carried := Fk.of x.d_carried sc_carried (fun _ _ _ _ _ _ us hl => match us, hl with | [_, _, _], _ => rfl) fun cd A outer s H E g hr => (ss_cons (ss_set g (i := 3) rfl (loc_ok rfl) (se_add g (v (i := 0) rfl rfl rfl) (v (i := 2) rfl rfl rfl)) rfl (.inl rfl))
    (ss_one (ss_ret (se_tup (sa_cons (se_fdv (v (i := 3) rfl rfl rfl) se_int) (sa_cons (se_callT call_intA vInt_ok rfl x.b_int (by decide +kernel) (sa_cons (se_and (se_eq g (v (i := 1) rfl rfl rfl) se_int rfl) (se_one (se_eq g (se_mod (v (i := 3) rfl rfl rfl) se_int) se_int rfl))) sa_nil rfl) (by decide +kernel) rfl rfl rfl) sa_nil rfl) rfl)))))
theorem sc_next_row : FnScope ["atom", "row", "digit", "gain"] ["atom", "row", "digit"] (defScope s_next_row) := ⟨rfl, rfl, rfl, by decide +kernel, rfl, by decide +kernel, by decide +kernel⟩
theorem ok_next_row (x : Fcts P K w mg) : Fk P w K mg base (cl K) 2 (He.fAd K ("next_row", none)) ["atom", "row", "digit"] sm_next_row := Fk.of x.d_next_row sc_next_row (fun _ _ _ _ _ _ us hl => match us, hl with | [_, _, _], _ => rfl) fun cd A outer s H E g hr => (ss_cons (ss_set g (i := 3) rfl (loc_ok rfl) (callK (ok_weighed x) g (hr.mono (by decide)) rfl x.g_weighed (sa_cons (ixK g (fun _ _ => rfl) (v (i := 0) rfl rfl rfl) se_int) (sa_cons (v (i := 2) rfl rfl rfl) sa_nil rfl) rfl) rfl rfl rfl) rfl (.inl rfl))
    (ss_cons (ss_if (st_eq g (ixK g (fun _ _ => rfl) (v (i := 0) rfl rfl rfl) se_int) se_str rfl) (ss_one (ss_ret (se_tup (sa_cons (se_mod (se_add g (ixK g (fun _ _ => rfl) (v (i := 1) rfl rfl rfl) se_int) (se_mulI (v (i := 3) rfl rfl rfl) (ixK g (fun _ _ => rfl) (v (i := 1) rfl rfl rfl) se_int))) (ixK g (fun _ _ => rfl) (v (i := 0) rfl rfl rfl) se_int)) (sa_cons (se_mod (se_mulI (ixK g (fun _ _ => rfl) (v (i := 1) rfl rfl rfl) se_int) se_int) (ixK g (fun _ _ => rfl) (v (i := 0) rfl rfl rfl) se_int)) sa_nil rfl) rfl)))) ss_nil)
    (ss_one (ss_ret (se_add g (callK (ok_carried x) g (hr.mono (by decide)) rfl x.g_carried (sa_cons (ixK g (fun _ _ => rfl) (v (i := 1) rfl rfl rfl) se_int) (sa_cons (ixK g (fun _ _ => rfl) (v (i := 1) rfl rfl rfl) se_int) (sa_cons (v (i := 3) rfl rfl rfl) sa_nil rfl) rfl) rfl) rfl rfl rfl) (callK (ok_carried x) g (hr.mono (by decide)) rfl x.g_carried (sa_cons (ixK g (fun _ _ => rfl) (v (i := 1) rfl rfl rfl) se_int) (sa_cons (ixK g (fun _ _ => rfl) (v (i := 1) rfl rfl rfl) se_int) (sa_cons (v (i := 3) rfl rfl rfl) sa_nil rfl) rfl) rfl) rfl rfl rfl))))))
theorem sc_Reading_step : FnScope ["self", "state", "digit", "rows", "seen", "later", "atom", "row", "flag", "bit"] ["self", "state", "digit"] (defScope s_Reading_step) := ⟨rfl, rfl, rfl, by decide +kernel, rfl, by decide +kernel, by decide +kernel⟩
theorem ok_Reading_step (x : Fcts P K w mg) : Fk P w K mg base (cl K) 3 (He.fAd K ("Reading", some "step")) ["self", "state", "digit"] sm_Reading_step := Fk.of x.d_Reading_step sc_Reading_step (fun _ _ _ _ _ _ us hl => match us, hl with | [_, _, _], _ => rfl) fun cd A outer s H E g hr => (ss_cons (ss_put (sg_tup g (sgs_cons (sg_name g (i := 3) rfl (loc_ok rfl) (.inl rfl)) (sgs_cons (sg_name g (i := 4) rfl (loc_ok rfl) (.inl rfl)) sgs_nil rfl) rfl) rfl rfl rfl) (v (i := 1) rfl rfl rfl) rfl rfl rfl)
    (ss_cons (ss_setLc g finP_ok rfl rfl (sw_true rfl rfl rfl rfl) (own := [("atom", 6), ("row", 7)]) (by kernel_rfl) rfl (si_zipA g rfl x.b_zip (se_fld g (fld1 x.f_Reading_leaves) (v (i := 0) rfl rfl rfl) rfl) (v (i := 3) rfl rfl rfl) rfl rfl rfl) (by decide +kernel) (fun _ => (sg_tup (GX.blk g) (sgs_cons (sg_name (GX.blk g) (i := 6) rfl (loc_ok rfl) (by first | exact .inl rfl | exact .inr rfl)) (sgs_cons (sg_name (GX.blk g) (i := 7) rfl (loc_ok rfl) (by first | exact .inl rfl | exact .inr rfl)) sgs_nil rfl) rfl) rfl rfl rfl)) (fun _ => sts_nil) (fun _ => (callK (ok_next_row x) (GX.blk g) (hr.mono (by decide)) rfl x.g_next_row (sa_cons (v (i := 6) rfl rfl rfl) (sa_cons (v (i := 7) rfl rfl rfl) (sa_cons (v (i := 2) rfl rfl rfl) sa_nil rfl) rfl) rfl) rfl rfl rfl)) (fun _ => rfl))
    (ss_one (ss_ret (se_tup (sa_cons (se_callT call_tuple_of vTupOf_ok rfl x.b_tuple (by decide +kernel) (sa_cons (v (i := 5) rfl rfl rfl) sa_nil rfl) (by decide +kernel) rfl rfl rfl) (sa_cons (se_callT call_tuple_of vTupOf_ok rfl x.b_tuple (by decide +kernel) (sa_cons (se_lc g finP_ok (own := [("flag", 8), ("bit", 9)]) (by kernel_rfl) rfl (si_zipA g rfl x.b_zip (v (i := 4) rfl rfl rfl) (v (i := 2) rfl rfl rfl) rfl rfl rfl) (by decide +kernel) (fun _ => (sg_tup (GX.blk g) (sgs_cons (sg_name (GX.blk g) (i := 8) rfl (loc_ok rfl) (by first | exact .inl rfl | exact .inr rfl)) (sgs_cons (sg_name (GX.blk g) (i := 9) rfl (loc_ok rfl) (by first | exact .inl rfl | exact .inr rfl)) sgs_nil rfl) rfl) rfl rfl rfl)) (fun _ => sts_nil) (fun _ => (se_callB (call_maxS ((GX.blk g)).hc) vMaxS_ok rfl x.b_max (by decide +kernel) (sa_cons (v (i := 8) rfl rfl rfl) (sa_cons (v (i := 9) rfl rfl rfl) sa_nil rfl) rfl) (by decide +kernel) rfl rfl rfl)) (fun _ => rfl)) sa_nil rfl) (by decide +kernel) rfl rfl rfl) sa_nil rfl) rfl))))))
-- raises ['InvalidCounts']
theorem sc_Reading_behind : FnScope ["self", "counts", "state", "left", "many"] ["self", "counts"] (defScope s_Reading_behind) := ⟨rfl, rfl, rfl, by decide +kernel, rfl, by decide +kernel, by decide +kernel⟩
def Wk_Reading_behind (K : PySem.W.Frag) (fd : FuncData) : Prop := KBn K fd ["self", "counts"] 1 ["counts"] (gI [0]) (gI [0]) ∧ True
theorem ok3_Reading_behind (x : Fcts P K w mg) : Xk2 (Wk_Reading_behind K) P w K mg base (cl K) 4 (He.fAd K ("Reading", some "behind")) ["self", "counts"] sm_Reading_behind := Xk2.of x.d_Reading_behind sc_Reading_behind (fun _ _ _ _ _ _ us hl => match us, hl with | [_, _], _ => rfl) (fun fd F => ⟨FunD.kbindsI F 1 [0] (fun _ _ _ _ _ _ us ws h1 h2 => match us, ws, h1, h2 with | [_], [_], _, _ => rfl), trivial⟩) fun cd A outer s H E g tk hr => (ss_cons (ss_expr (callXK (ok_need_counts x) g tk WI.e (hr.mono (by decide)) rfl x.g_need_counts (sa_cons (v (i := 1) rfl rfl rfl) sa_nil rfl) rfl rfl rfl) rfl)
    (ss_cons (ss_par g rfl rfl (by decide) rfl rfl (sa_cons (methK0 (ok_Reading_start x) g (hr.mono (by decide)) rfl rfl x.c_Reading x.m_Reading_start (v (i := 0) rfl rfl rfl) rfl) (sa_cons (se_callT call_list_of vLstOf_ok rfl x.b_list (by decide +kernel) (sa_cons (v (i := 1) rfl rfl rfl) sa_nil rfl) (by decide +kernel) rfl rfl rfl) sa_nil rfl) rfl) rfl rfl)
    (ss_cons (ss_while (passes_of rfl) (st_tru g (se_callB (call_anyG g.hc) vAnyG_ok rfl x.b_any (by decide +kernel) (sa_cons (v (i := 3) rfl rfl rfl) sa_nil rfl) (by decide +kernel) rfl rfl rfl) (fun _ => rfl)) (ss_cons (ss_set g (i := 2) rfl (loc_ok rfl) (methK (ok_Reading_step x) g (hr.mono (by decide)) rfl rfl x.c_Reading x.m_Reading_step (v (i := 0) rfl rfl rfl) (sa_cons (v (i := 2) rfl rfl rfl) (sa_cons (se_callT call_tuple_of vTupOf_ok rfl x.b_tuple (by decide +kernel) (sa_cons (se_lc g finP_ok (own := [("many", 4)]) (by kernel_rfl) rfl (si_of g (v (i := 3) rfl rfl rfl)) (by decide +kernel) (fun _ => (sg_name (GX.blk g) (i := 4) rfl (loc_ok rfl) (by first | exact .inl rfl | exact .inr rfl))) (fun _ => sts_nil) (fun _ => (se_mod (v (i := 4) rfl rfl rfl) se_int)) (fun _ => rfl)) sa_nil rfl) (by decide +kernel) rfl rfl rfl) sa_nil rfl) rfl) rfl rfl rfl) rfl (.inl rfl))
    (ss_one (ss_setLc g finP_ok rfl rfl (sw_true rfl rfl rfl rfl) (own := [("many", 4)]) (by kernel_rfl) rfl (si_of g (v (i := 3) rfl rfl rfl)) (by decide +kernel) (fun _ => (sg_name (GX.blk g) (i := 4) rfl (loc_ok rfl) (by first | exact .inl rfl | exact .inr rfl))) (fun _ => sts_nil) (fun _ => (se_fdv (v (i := 4) rfl rfl rfl) se_int)) (fun _ => rfl)))))
    (ss_one (ss_ret (v (i := 2) rfl rfl rfl))))))
theorem ok_Reading_behind (x : Fcts P K w mg) : Xk P w K mg base (cl K) 4 (He.fAd K ("Reading", some "behind")) ["self", "counts"] sm_Reading_behind := (ok3_Reading_behind x).xk
theorem ok2_Reading_behind (x : Fcts P K w mg) : Fk2 (Wk_Reading_behind K) P w K mg base (cl K) 4 (He.fAd K ("Reading", some "behind")) ["self", "counts"] (noxF sm_Reading_behind) := (ok3_Reading_behind x).fk2
theorem sc_law_places : FnScope ["_law_counts_z", "_law_found", "_law_left"] ["_law_counts_z"] (defScope s_law_places) := ⟨rfl, rfl, rfl, by decide +kernel, rfl, by decide +kernel, by decide +kernel⟩
theorem ok_law_places (x : Fcts P K w mg) : Fk P w K mg base (cl K) 1 (He.fAd K ("_law_places", none)) ["_law_counts_z"] sm_law_places := Fk.of x.d_law_places sc_law_places (fun _ _ _ _ _ _ us hl => match us, hl with | [_], _ => rfl) fun cd A outer s H E g hr => (ss_cons (ss_par g rfl rfl (by decide) rfl rfl (sa_cons se_int (sa_cons (se_callB (call_maxS g.hc) vMaxS_ok rfl x.b_max (by decide +kernel) (sa_cons (v (i := 0) rfl rfl rfl) sa_nil rfl) (by decide +kernel) rfl rfl rfl) sa_nil rfl) rfl) rfl rfl)
    (ss_cons (ss_while PassesOwn.never (st_gt (v (i := 2) rfl rfl rfl) se_int rfl) (ss_one (ss_par g rfl rfl (by decide) rfl rfl (sa_cons (se_add g (v (i := 1) rfl rfl rfl) se_int) (sa_cons (se_fdv (v (i := 2) rfl rfl rfl) se_int) sa_nil rfl) rfl) rfl rfl)))
    (ss_one (ss_ret (v (i := 1) rfl rfl rfl)))))
theorem sc_joined : FnScope ["tree", "values", "word", "parts", "found", "at", "part", "many"] ["tree", "values"] (defScope s_joined) := ⟨rfl, rfl, rfl, by decide +kernel, rfl, by decide +kernel, by decide +kernel⟩
theorem ok_joined (x : Fcts P K w mg) : ∀ n : Nat, Fk P w K mg base (cl K) (12 + n) (He.fAd K ("joined", none)) ["tree", "values"] (sm_joined n)
  | 0 => (Fk.zero (N := []) (fun _ _ => rfl) x.d_joined (fun _ _ _ _ _ _ us hl => match us, hl with | [_, _], _ => rfl)).mono (Nat.zero_le _)
  | n + 1 => (fun (ih : Fk P w K mg base (cl K) (12 + n) (He.fAd K ("joined", none)) ["tree", "values"] (sm_joined n)) => Fk.of x.d_joined sc_joined (fun _ _ _ _ _ _ us hl => match us, hl with | [_, _], _ => rfl) fun cd A outer s H E g hr => (ss_cons (ss_star g (i := 2) (j := 3) rfl rfl (loc_ok rfl) (loc_ok rfl) (.inl rfl) (.inl rfl) (v (i := 0) rfl rfl rfl) rfl rfl rfl rfl)
    (ss_cons (ss_if (st_notIn g (v (i := 2) rfl rfl rfl) (se_tup (sa_cons se_str (sa_cons se_str (sa_cons se_str sa_nil rfl) rfl) rfl)) rfl) (ss_one (ss_ret (ixK g (fun _ _ => rfl) (v (i := 1) rfl rfl rfl) se_int))) ss_nil)
    (ss_cons (ss_par g rfl rfl (by decide) rfl rfl (sa_cons (se_lstC sa_nil) (sa_cons se_int sa_nil rfl) rfl) rfl rfl)
    (ss_cons (ss_for PassesOwn.never g (si_of g (v (i := 3) rfl rfl rfl)) (sg_name g (i := 6) rfl (loc_ok rfl) (.inl rfl)) (ss_cons (ss_set g (i := 7) rfl (loc_ok rfl) (se_callB call_lenA vLen_ok rfl x.b_len (by decide +kernel) (sa_cons (callK (ok_atoms_in x 12) g (hr.mono (by omega)) rfl x.g_atoms_in (sa_cons (v (i := 6) rfl rfl rfl) sa_nil rfl) rfl rfl rfl) sa_nil rfl) (by decide +kernel) rfl rfl rfl) rfl (.inl rfl))
    (ss_cons (ss_expr (se_bm g F.plainAttrs_list F.slot_list_append F.type_list_append mt_append vAppend_ok (v (i := 4) rfl rfl rfl) (sa_cons (callK ih g hr rfl x.g_joined (sa_cons (v (i := 6) rfl rfl rfl) (sa_cons (se_sl g (v (i := 1) rfl rfl rfl) (so_some (v (i := 5) rfl rfl rfl)) (so_some (se_add g (v (i := 5) rfl rfl rfl) (v (i := 7) rfl rfl rfl)))) sa_nil rfl) rfl) rfl rfl rfl) sa_nil rfl) rfl rfl rfl rfl rfl) rfl)
    (ss_one (ss_aug g (i := 5) rfl (loc_ok rfl) iop_addA vIadd_ok (v (i := 7) rfl rfl rfl) (.inl rfl))))) (fun _ => rfl))
    (ss_cons (ss_if (st_eq g (v (i := 2) rfl rfl rfl) se_str rfl) (ss_one (ss_ret (se_not (ixK g (fun _ _ => rfl) (v (i := 4) rfl rfl rfl) se_int)))) ss_nil)
    (ss_one (ss_ret (se_if (st_eq g (v (i := 2) rfl rfl rfl) se_str rfl) (se_callB (call_allG g.hc) vAnyG_ok rfl x.b_all (by decide +kernel) (sa_cons (v (i := 4) rfl rfl rfl) sa_nil rfl) (by decide +kernel) rfl rfl rfl) (se_callB (call_anyG g.hc) vAnyG_ok rfl x.b_any (by decide +kernel) (sa_cons (v (i := 4) rfl rfl rfl) sa_nil rfl) (by decide +kernel) rfl rfl rfl)))))))))) (ok_joined x n)
theorem sc_atom_answer : FnScope ["atom", "counts", "total"] ["atom", "counts"] (defScope s_atom_answer) := ⟨rfl, rfl, rfl, by decide +kernel, rfl, by decide +kernel, by decide +kernel⟩
theorem ok_atom_answer (x : Fcts P K w mg) : Fk P w K mg base (cl K) 2 (He.fAd K ("atom_answer", none)) ["atom", "counts"] sm_atom_answer := Fk.of x.d_atom_answer sc_atom_answer (fun _ _ _ _ _ _ us hl => match us, hl with | [_, _], _ => rfl) fun cd A outer s H E g hr => (ss_cons (ss_set g (i := 2) rfl (loc_ok rfl) (callK (ok_weighed x) g (hr.mono (by decide)) rfl x.g_weighed (sa_cons (ixK g (fun _ _ => rfl) (v (i := 0) rfl rfl rfl) se_int) (sa_cons (v (i := 1) rfl rfl rfl) sa_nil rfl) rfl) rfl rfl rfl) rfl (.inl rfl))
    (ss_cons (ss_match g (ixK g (fun _ _ => rfl) (v (i := 0) rfl rfl rfl) se_int) (SMc.cons (ss_one (ss_ret (se_ge (v (i := 2) rfl rfl rfl) (ixK g (fun _ _ => rfl) (v (i := 0) rfl rfl rfl) se_int) rfl))) (SMc.cons (ss_one (ss_ret (se_le (v (i := 2) rfl rfl rfl) (ixK g (fun _ _ => rfl) (v (i := 0) rfl rfl rfl) se_int) rfl))) (SMc.cons (ss_one (ss_ret (se_eq g (v (i := 2) rfl rfl rfl) (ixK g (fun _ _ => rfl) (v (i := 0) rfl rfl rfl) se_int) rfl))) SMc.nil))))
    (ss_one (ss_ret (se_eq g (se_mod (v (i := 2) rfl rfl rfl) (ixK g (fun _ _ => rfl) (v (i := 0) rfl rfl rfl) se_int)) (ixK g (fun _ _ => rfl) (v (i := 0) rfl rfl rfl) se_int) rfl)))))
-- raises ['InvalidCounts']
theorem sc_Question_answer : FnScope ["self", "counts", "atom"] ["self", "counts"] (defScope s_Question_answer) := ⟨rfl, rfl, rfl, by decide +kernel, rfl, by decide +kernel, by decide +kernel⟩
theorem ok_Question_answer (x : Fcts P K w mg) : Xk P w K mg base (cl K) 25 (He.fAd K ("Question", some "answer")) ["self", "counts"] sm_Question_answer_v1 := Xk.of x.d_Question_answer sc_Question_answer (fun _ _ _ _ _ _ us hl => match us, hl with | [_, _], _ => rfl) fun cd A outer s H E g tk hr => (ss_cons (ss_expr (callXK (ok_need_counts x) g tk WI.e (hr.mono (by decide)) rfl x.g_need_counts (sa_cons (v (i := 1) rfl rfl rfl) sa_nil rfl) rfl rfl rfl) rfl)
    (ss_one (ss_ret (callK (ok_joined x 12) g (hr.mono (by decide)) rfl x.g_joined (sa_cons (se_fld g (fld1 x.f_Question_shape) (v (i := 0) rfl rfl rfl) rfl) (sa_cons (se_lc g finP_ok (own := [("atom", 2)]) (by kernel_rfl) rfl (si_of g (se_fld g (fld1 x.f_Question_leaves) (v (i := 0) rfl rfl rfl) rfl)) (by decide +kernel) (fun _ => (sg_name (GX.blk g) (i := 2) rfl (loc_ok rfl) (by first | exact .inl rfl | exact .inr rfl))) (fun _ => sts_nil) (fun _ => (callK (ok_atom_answer x) (GX.blk g) (hr.mono (by decide)) rfl x.g_atom_answer (sa_cons (v (i := 2) rfl rfl rfl) (sa_cons (v (i := 1) rfl rfl rfl) sa_nil rfl) rfl) rfl rfl rfl)) (fun _ => rfl)) sa_nil rfl) rfl) rfl rfl rfl))))
-- raises ['InvalidCounts']
theorem sc_Reading_by_letters : FnScope ["self", "state"] ["self", "state"] (defScope s_Reading_by_letters) := ⟨rfl, rfl, rfl, by decide +kernel, rfl, by decide +kernel, by decide +kernel⟩
theorem ok_Reading_by_letters (x : Fcts P K w mg) : Xk P w K mg base (cl K) 26 (He.fAd K ("Reading", some "by_letters")) ["self", "state"] sm_Reading_by_letters := Xk.of x.d_Reading_by_letters sc_Reading_by_letters (fun _ _ _ _ _ _ us hl => match us, hl with | [_, _], _ => rfl) fun cd A outer s H E g tk hr => (ss_one (ss_ret (methXK (ok_Question_answer x) g tk WI.e (hr.mono (by decide)) rfl rfl x.c_Question x.m_Question_answer (se_fld g (fld1 x.f_Reading_asked) (v (i := 0) rfl rfl rfl) rfl) (sa_cons (ixK g (fun _ _ => rfl) (v (i := 1) rfl rfl rfl) se_int) sa_nil rfl) rfl rfl rfl)))
theorem sc_is_zero : FnScope ["row"] ["row"] (defScope s_is_zero) := ⟨rfl, rfl, rfl, by decide +kernel, rfl, by decide +kernel, by decide +kernel⟩
theorem ok_is_zero (x : Fcts P K w mg) : Fk P w K mg base (cl K) 1 (He.fAd K ("is_zero", none)) ["row"] sm_is_zero := Fk.of x.d_is_zero sc_is_zero (fun _ _ _ _ _ _ us hl => match us, hl with | [_], _ => rfl) fun cd A outer s H E g hr => (ss_one (ss_ret (se_and (se_eq g (ixK g (fun _ _ => rfl) (v (i := 0) rfl rfl rfl) se_int) se_int rfl) (se_one (se_eq g (ixK g (fun _ _ => rfl) (v (i := 0) rfl rfl rfl) se_int) se_int rfl)))))
theorem sc_far_row : FnScope ["atom", "row"] ["atom", "row"] (defScope s_far_row) := ⟨rfl, rfl, rfl, by decide +kernel, rfl, by decide +kernel, by decide +kernel⟩
theorem ok_far_row (x : Fcts P K w mg) : Fk P w K mg base (cl K) 2 (He.fAd K ("far_row", none)) ["atom", "row"] sm_far_row := Fk.of x.d_far_row sc_far_row (fun _ _ _ _ _ _ us hl => match us, hl with | [_, _], _ => rfl) fun cd A outer s H E g hr => (ss_cons (ss_if (st_eq g (ixK g (fun _ _ => rfl) (v (i := 0) rfl rfl rfl) se_int) se_str rfl) (ss_one (ss_ret (se_eq g (ixK g (fun _ _ => rfl) (v (i := 0) rfl rfl rfl) se_int) se_int rfl))) ss_nil)
    (ss_cons (ss_if (st_tru g (callK (ok_is_zero x) g (hr.mono (by decide)) rfl x.g_is_zero (sa_cons (se_sl g (v (i := 1) rfl rfl rfl) (so_some se_int) so_none) sa_nil rfl) rfl rfl rfl) (fun _ => rfl)) (ss_one (ss_ret (se_or (se_eq g (ixK g (fun _ _ => rfl) (v (i := 0) rfl rfl rfl) se_int) se_int rfl) (se_one (se_and (se_eq g (se_lt (ixK g (fun _ _ => rfl) (v (i := 0) rfl rfl rfl) se_int) se_int rfl) (se_eq g (ixK g (fun _ _ => rfl) (v (i := 0) rfl rfl rfl) se_int) se_str rfl) rfl) (se_one (se_ne g (ixK g (fun _ _ => rfl) (v (i := 0) rfl rfl rfl) se_int) se_str rfl))))))) ss_nil)
    (ss_one (ss_ret (se_and (se_eq g (se_ge (ixK g (fun _ _ => rfl) (v (i := 1) rfl rfl rfl) se_int) se_int rfl) (se_eq g (ixK g (fun _ _ => rfl) (v (i := 0) rfl rfl rfl) se_int) se_str rfl) rfl) (se_one (se_ne g (ixK g (fun _ _ => rfl) (v (i := 0) rfl rfl rfl) se_int) se_str rfl)))))))
theorem sc_Question_joined_by : FnScope ["self", "values"] ["self", "values"] (defScope s_Question_joined_by) := ⟨rfl, rfl, rfl, by decide +kernel, rfl, by decide +kernel, by decide +kernel⟩
theorem ok_Question_joined_by (x : Fcts P K w mg) : Fk P w K mg base (cl K) 25 (He.fAd K ("Question", some "joined_by")) ["self", "values"] sm_Question_joined_by := Fk.of x.d_Question_joined_by sc_Question_joined_by (fun _ _ _ _ _ _ us hl => match us, hl with | [_, _], _ => rfl) fun cd A outer s H E g hr => (ss_one (ss_ret (callK (ok_joined x 12) g (hr.mono (by decide)) rfl x.g_joined (sa_cons (se_fld g (fld1 x.f_Question_shape) (v (i := 0) rfl rfl rfl) rfl) (sa_cons (se_callT call_list_of vLstOf_ok rfl x.b_list (by decide +kernel) (sa_cons (v (i := 1) rfl rfl rfl) sa_nil rfl) (by decide +kernel) rfl rfl rfl) sa_nil rfl) rfl) rfl rfl rfl)))
theorem sc_Reading_far : FnScope ["self", "state", "atom", "row"] ["self", "state"] (defScope s_Reading_far) := ⟨rfl, rfl, rfl, by decide +kernel, rfl, by decide +kernel, by decide +kernel⟩
theorem ok_Reading_far (x : Fcts P K w mg) : Fk P w K mg base (cl K) 26 (He.fAd K ("Reading", some "far")) ["self", "state"] sm_Reading_far := Fk.of x.d_Reading_far sc_Reading_far (fun _ _ _ _ _ _ us hl => match us, hl with | [_, _], _ => rfl) fun cd A outer s H E g hr => (ss_one (ss_ret (methK (ok_Question_joined_by x) g (hr.mono (by decide)) rfl rfl x.c_Question x.m_Question_joined_by (se_fld g (fld1 x.f_Reading_asked) (v (i := 0) rfl rfl rfl) rfl) (sa_cons (se_lc g finP_ok (own := [("atom", 2), ("row", 3)]) (by kernel_rfl) rfl (si_zipA g rfl x.b_zip (se_fld g (fld1 x.f_Reading_leaves) (v (i := 0) rfl rfl rfl) rfl) (ixK g (fun _ _ => rfl) (v (i := 1) rfl rfl rfl) se_int) rfl rfl rfl) (by decide +kernel) (fun _ => (sg_tup (GX.blk g) (sgs_cons (sg_name (GX.blk g) (i := 2) rfl (loc_ok rfl) (by first | exact .inl rfl | exact .inr rfl)) (sgs_cons (sg_name (GX.blk g) (i := 3) rfl (loc_ok rfl) (by first | exact .inl rfl | exact .inr rfl)) sgs_nil rfl) rfl) rfl rfl rfl)) (fun _ => sts_nil) (fun _ => (callK (ok_far_row x) (GX.blk g) (hr.mono (by decide)) rfl x.g_far_row (sa_cons (v (i := 2) rfl rfl rfl) (sa_cons (v (i := 3) rfl rfl rfl) sa_nil rfl) rfl) rfl rfl rfl)) (fun _ => rfl)) sa_nil rfl) rfl rfl rfl)))
theorem sc_is_at_least : FnScope ["row"] ["row"] (defScope s_is_at_least) := ⟨rfl, rfl, rfl, by decide +kernel, rfl, by decide +kernel, by decide +kernel⟩
theorem ok_is_at_least (x : Fcts P K w mg) : Fk P w K mg base (cl K) 1 (He.fAd K ("is_at_least", none)) ["row"] sm_is_at_least := Fk.of x.d_is_at_least sc_is_at_least (fun _ _ _ _ _ _ us hl => match us, hl with | [_], _ => rfl) fun cd A outer s H E g hr => (ss_one (ss_ret (se_ge (ixK g (fun _ _ => rfl) (v (i := 0) rfl rfl rfl) se_int) se_int rfl)))
theorem sc_row_answer : FnScope ["atom", "row"] ["atom", "row"] (defScope s_row_answer) := ⟨rfl, rfl, rfl, by decide +kernel, rfl, by decide +kernel, by decide +kernel⟩
theorem ok_row_answer (x : Fcts P K w mg) : Fk P w K mg base (cl K) 2 (He.fAd K ("row_answer", none)) ["atom", "row"] sm_row_answer := Fk.of x.d_row_answer sc_row_answer (fun _ _ _ _ _ _ us hl => match us, hl with | [_, _], _ => rfl) fun cd A outer s H E g hr => (ss_cons (ss_if (st_eq g (ixK g (fun _ _ => rfl) (v (i := 0) rfl rfl rfl) se_int) se_str rfl) (ss_one (ss_ret (se_eq g (ixK g (fun _ _ => rfl) (v (i := 1) rfl rfl rfl) se_int) (ixK g (fun _ _ => rfl) (v (i := 0) rfl rfl rfl) se_int) rfl))) ss_nil)
    (ss_cons (ss_if (st_eq g (ixK g (fun _ _ => rfl) (v (i := 0) rfl rfl rfl) se_int) se_str rfl) (ss_one (ss_ret (callK (ok_is_at_least x) g (hr.mono (by decide)) rfl x.g_is_at_least (sa_cons (v (i := 1) rfl rfl rfl) sa_nil rfl) rfl rfl rfl))) ss_nil)
    (ss_one (ss_ret (se_or (callK (ok_is_zero x) g (hr.mono (by decide)) rfl x.g_is_zero (sa_cons (v (i := 1) rfl rfl rfl) sa_nil rfl) rfl rfl rfl) (se_one (se_and (se_eq g (ixK g (fun _ _ => rfl) (v (i := 0) rfl rfl rfl) se_int) se_str rfl) (se_one (se_lt (ixK g (fun _ _ => rfl) (v (i := 1) rfl rfl rfl) se_int) se_int rfl)))))))))
theorem sc_Reading_answer : FnScope ["self", "state", "atom", "row"] ["self", "state"] (defScope s_Reading_answer) := ⟨rfl, rfl, rfl, by decide +kernel, rfl, by decide +kernel, by decide +kernel⟩
theorem ok_Reading_answer (x : Fcts P K w mg) : Fk P w K mg base (cl K) 26 (He.fAd K ("Reading", some "answer")) ["self", "state"] sm_Reading_answer := Fk.of x.d_Reading_answer sc_Reading_answer (fun _ _ _ _ _ _ us hl => match us, hl with | [_, _], _ => rfl) fun cd A outer s H E g hr => (ss_one (ss_ret (methK (ok_Question_joined_by x) g (hr.mono (by decide)) rfl rfl x.c_Question x.m_Question_joined_by (se_fld g (fld1 x.f_Reading_asked) (v (i := 0) rfl rfl rfl) rfl) (sa_cons (se_lc g finP_ok (own := [("atom", 2), ("row", 3)]) (by kernel_rfl) rfl (si_zipA g rfl x.b_zip (se_fld g (fld1 x.f_Reading_leaves) (v (i := 0) rfl rfl rfl) rfl) (ixK g (fun _ _ => rfl) (v (i := 1) rfl rfl rfl) se_int) rfl rfl rfl) (by decide +kernel) (fun _ => (sg_tup (GX.blk g) (sgs_cons (sg_name (GX.blk g) (i := 2) rfl (loc_ok rfl) (by first | exact .inl rfl | exact .inr rfl)) (sgs_cons (sg_name (GX.blk g) (i := 3) rfl (loc_ok rfl) (by first | exact .inl rfl | exact .inr rfl)) sgs_nil rfl) rfl) rfl rfl rfl)) (fun _ => sts_nil) (fun _ => (callK (ok_row_answer x) (GX.blk g) (hr.mono (by decide)) rfl x.g_row_answer (sa_cons (v (i := 2) rfl rfl rfl) (sa_cons (v (i := 3) rfl rfl rfl) sa_nil rfl) rfl) rfl rfl rfl)) (fun _ => rfl)) sa_nil rfl) rfl rfl rfl)))
theorem sc_law_holds : FnScope ["_law_atom_here", "_law_counts_z", "_law_value_here"] ["_law_atom_here", "_law_counts_z"] (defScope s_law_holds) := ⟨rfl, rfl, rfl, by decide +kernel, rfl, by decide +kernel, by decide +kernel⟩
theorem ok_law_holds (x : Fcts P K w mg) : Fk P w K mg base (cl K) 2 (He.fAd K ("_law_holds", none)) ["_law_atom_here", "_law_counts_z"] sm_law_holds := Fk.of x.d_law_holds sc_law_holds (fun _ _ _ _ _ _ us hl => match us, hl with | [_, _], _ => rfl) fun cd A outer s H E g hr => (ss_cons (ss_set g (i := 2) rfl (loc_ok rfl) (callK (ok_law_value x) g (hr.mono (by decide)) rfl x.g__law_value (sa_cons (ixK g (fun _ _ => rfl) (v (i := 0) rfl rfl rfl) se_int) (sa_cons (v (i := 1) rfl rfl rfl) sa_nil rfl) rfl) rfl rfl rfl) rfl (.inl rfl))
    (ss_cons (ss_if (st_eq g (ixK g (fun _ _ => rfl) (v (i := 0) rfl rfl rfl) se_int) se_str rfl) (ss_one (ss_ret (se_eq g (se_mod (se_callT call_intA vInt_ok rfl x.b_int (by decide +kernel) (sa_cons (v (i := 2) rfl rfl rfl) sa_nil rfl) (by decide +kernel) rfl rfl rfl) (ixK g (fun _ _ => rfl) (v (i := 0) rfl rfl rfl) se_int)) (ixK g (fun _ _ => rfl) (v (i := 0) rfl rfl rfl) se_int) rfl))) ss_nil)
    (ss_cons (ss_if (st_eq g (ixK g (fun _ _ => rfl) (v (i := 0) rfl rfl rfl) se_int) se_str rfl) (ss_one (ss_ret (se_eq g (v (i := 2) rfl rfl rfl) (ixK g (fun _ _ => rfl) (v (i := 0) rfl rfl rfl) se_int) rfl))) ss_nil)
    (ss_one (ss_ret (se_if (st_eq g (ixK g (fun _ _ => rfl) (v (i := 0) rfl rfl rfl) se_int) se_str rfl) (se_ge (v (i := 2) rfl rfl rfl) (ixK g (fun _ _ => rfl) (v (i := 0) rfl rfl rfl) se_int) rfl) (se_le (v (i := 2) rfl rfl rfl) (ixK g (fun _ _ => rfl) (v (i := 0) rfl rfl rfl) se_int) rfl)))))))
theorem sc_law_truth : FnScope ["_law_tree_here", "_law_counts_z", "_law_part"] ["_law_tree_here", "_law_counts_z"] (defScope s_law_truth) := ⟨rfl, rfl, rfl, by decide +kernel, rfl, by decide +kernel, by decide +kernel⟩
theorem ok_law_truth (x : Fcts P K w mg) : ∀ n : Nat, Fk P w K mg base (cl K) (2 + n) (He.fAd K ("_law_truth", none)) ["_law_tree_here", "_law_counts_z"] (sm_law_truth n)
  | 0 => (Fk.zero (N := []) (fun _ _ => rfl) x.d_law_truth (fun _ _ _ _ _ _ us hl => match us, hl with | [_, _], _ => rfl)).mono (Nat.zero_le _)
  | n + 1 => (fun (ih : Fk P w K mg base (cl K) (2 + n) (He.fAd K ("_law_truth", none)) ["_law_tree_here", "_law_counts_z"] (sm_law_truth n)) => Fk.of x.d_law_truth sc_law_truth (fun _ _ _ _ _ _ us hl => match us, hl with | [_, _], _ => rfl) fun cd A outer s H E g hr => (ss_cons (ss_if (st_eq g (ixK g (fun _ _ => rfl) (v (i := 0) rfl rfl rfl) se_int) se_str rfl) (ss_one (ss_ret (se_not (callK ih g hr rfl x.g__law_truth (sa_cons (ixK g (fun _ _ => rfl) (v (i := 0) rfl rfl rfl) se_int) (sa_cons (v (i := 1) rfl rfl rfl) sa_nil rfl) rfl) rfl rfl rfl)))) ss_nil)
    (ss_cons (ss_if (st_eq g (ixK g (fun _ _ => rfl) (v (i := 0) rfl rfl rfl) se_int) se_str rfl) (ss_one (ss_ret (se_callB (call_allG g.hc) vAnyG_ok rfl x.b_all (by decide +kernel) (sa_cons (se_lc g finP_ok (own := [("_law_part", 2)]) (by kernel_rfl) rfl (si_of g (se_sl g (v (i := 0) rfl rfl rfl) (so_some se_int) so_none)) (by decide +kernel) (fun _ => (sg_name (GX.blk g) (i := 2) rfl (loc_ok rfl) (by first | exact .inl rfl | exact .inr rfl))) (fun _ => sts_nil) (fun _ => (callK ih (GX.blk g) hr rfl x.g__law_truth (sa_cons (v (i := 2) rfl rfl rfl) (sa_cons (v (i := 1) rfl rfl rfl) sa_nil rfl) rfl) rfl rfl rfl)) (fun _ => rfl)) sa_nil rfl) (by decide +kernel) rfl rfl rfl))) ss_nil)
    (ss_cons (ss_if (st_eq g (ixK g (fun _ _ => rfl) (v (i := 0) rfl rfl rfl) se_int) se_str rfl) (ss_one (ss_ret (se_callB (call_anyG g.hc) vAnyG_ok rfl x.b_any (by decide +kernel) (sa_cons (se_lc g finP_ok (own := [("_law_part", 2)]) (by kernel_rfl) rfl (si_of g (se_sl g (v (i := 0) rfl rfl rfl) (so_some se_int) so_none)) (by decide +kernel) (fun _ => (sg_name (GX.blk g) (i := 2) rfl (loc_ok rfl) (by first | exact .inl rfl | exact .inr rfl))) (fun _ => sts_nil) (fun _ => (callK ih (GX.blk g) hr rfl x.g__law_truth (sa_cons (v (i := 2) rfl rfl rfl) (sa_cons (v (i := 1) rfl rfl rfl) sa_nil rfl) rfl) rfl rfl rfl)) (fun _ => rfl)) sa_nil rfl) (by decide +kernel) rfl rfl rfl))) ss_nil)
    (ss_one (ss_ret (callK (ok_law_holds x) g (hr.mono (by omega)) rfl x.g__law_holds (sa_cons (v (i := 0) rfl rfl rfl) (sa_cons (v (i := 1) rfl rfl rfl) sa_nil rfl) rfl) rfl rfl rfl))))))) (ok_law_truth x n)
theorem sc_law_far : FnScope ["_law_tree_here", "_law_counts_z", "_law_many"] ["_law_tree_here", "_law_counts_z"] (defScope s_law_far) := ⟨rfl, rfl, rfl, by decide +kernel, rfl, by decide +kernel, by decide +kernel⟩
theorem ok_law_far (x : Fcts P K w mg) : Fk P w K mg base (cl K) 15 (He.fAd K ("_law_far", none)) ["_law_tree_here", "_law_counts_z"] sm_law_far := Fk.of x.d_law_far sc_law_far (fun _ _ _ _ _ _ us hl => match us, hl with | [_, _], _ => rfl) fun cd A outer s H E g hr => (ss_one (ss_ret (callK (ok_law_truth x 12) g (hr.mono (by decide)) rfl x.g__law_truth (sa_cons (v (i := 0) rfl rfl rfl) (sa_cons (se_callT call_tuple_of vTupOf_ok rfl x.b_tuple (by decide +kernel) (sa_cons (se_lc g finP_ok (own := [("_law_many", 2)]) (by kernel_rfl) rfl (si_of g (v (i := 1) rfl rfl rfl)) (by decide +kernel) (fun _ => (sg_name (GX.blk g) (i := 2) rfl (loc_ok rfl) (by first | exact .inl rfl | exact .inr rfl))) (fun _ => sts_nil) (fun _ => (se_mulI (v (i := 2) rfl rfl rfl) se_int)) (fun _ => rfl)) sa_nil rfl) (by decide +kernel) rfl rfl rfl) sa_nil rfl) rfl) rfl rfl rfl)))
theorem sc_law : FnScope ["_law_script", "_law_bag_here", "_law_turn", "_law_tree_here", "_law_reading", "_law_k", "_law_odd", "_law_counts_z", "_law_state_here", "_law_told"] ["_law_script"] (defScope s_law) := ⟨rfl, rfl, rfl, by decide +kernel, rfl, by decide +kernel, by decide +kernel⟩
theorem ok_law (x : Fcts P K w mg) (tb : LamX.TabB base mg (He.codeOf K ("law", none)) (He.tabOf K (He.codeOf K ("law", none)))) {fd : FuncData} (F : FunD K "law" "law" (defArgs s_law) (defBody s_law) (defScope s_law) [] [] (He.fAd K ("law", none)) fd) : FnOk P w K mg base CX0 29 (He.fAd K ("law", none)) fd ["_law_script"] (spF K (cl K) sm_law) :=
  fn_okC (p := ("law", none)) F sc_law fun A outer s H E hr => (have g := gx_of sc_law hr; (ss_cons (ss_set g (i := 1) rfl (loc_ok rfl) (callK (ok_law_bag x) g (hr.mono (by decide)) rfl x.g__law_bag (sa_cons (v (i := 0) rfl rfl rfl) sa_nil rfl) rfl rfl rfl) rfl (.inl rfl))
    (ss_cons (ss_for PassesOwn.never g (si_rng1 rfl x.b_range se_int rfl) (sg_name g (i := 2) rfl (loc_ok rfl) (.inl rfl)) (ss_cons (ss_set g (i := 3) rfl (loc_ok rfl) (callK (ok_law_tree x 12) g (hr.mono (by decide)) rfl x.g__law_tree (sa_cons (v (i := 1) rfl rfl rfl) (sa_cons se_int (sa_cons se_int (sa_cons se_int sa_nil rfl) rfl) rfl) rfl) rfl rfl rfl) rfl (.inl rfl))
    (ss_cons (ss_set g (i := 4) rfl (loc_ok rfl) (makeK (ok_Reading_init x) g (hr.mono (by decide)) rfl rfl x.mk_Reading rfl x.g_Reading (sa_cons (makeXK (ok_Question_init x) g tk0 wi0 (hr.mono (by decide)) rfl rfl x.mk_Question rfl x.g_Question (sa_cons (v (i := 3) rfl rfl rfl) sa_nil rfl) rfl rfl rfl) sa_nil rfl) rfl rfl rfl) rfl (.inl rfl))
    (ss_cons (ss_if (sw_pt (sw_or (st_not (st_tru g (callK (ok_law_same x 12) g (hr.mono (by decide)) rfl x.g__law_same (sa_cons (methK0 (ok_Reading_start x) g (hr.mono (by decide)) rfl rfl x.c_Reading x.m_Reading_start (v (i := 4) rfl rfl rfl) rfl) (sa_cons (callK (ok_law_state x) g (hr.mono (by decide)) rfl x.g__law_state (sa_cons (v (i := 3) rfl rfl rfl) (sa_cons (se_tup (sa_cons se_int (sa_cons se_int (sa_cons se_int sa_nil rfl) rfl) rfl)) (sa_cons se_int sa_nil rfl) rfl) rfl) rfl rfl rfl) sa_nil rfl) rfl) rfl rfl rfl) (fun _ => rfl))) (sw_or1 (st_neO (ok_Question_eq x) x.nc_Question g (hr.mono (by decide)) rfl x.m_Question_eq (propK (pk_Reading_question x) g (hr.mono (by decide)) rfl x.c_Reading (v (i := 4) rfl rfl rfl) rfl) (makeXK (ok_Question_init x) g tk0 wi0 (hr.mono (by decide)) rfl rfl x.mk_Question rfl x.g_Question (sa_cons (v (i := 3) rfl rfl rfl) sa_nil rfl) rfl rfl rfl) rfl)))) (ss_one (ss_ret se_bl)) ss_nil)
    (ss_cons (ss_for PassesOwn.never g (si_rng1 rfl x.b_range se_int rfl) (sg_name g (i := 5) rfl (loc_ok rfl) (.inl rfl)) (ss_cons (ss_set g (i := 7) rfl (loc_ok rfl) (callK (ok_law_some_counts x) g (hr.mono (by decide)) rfl x.g__law_some_counts (sa_cons (v (i := 1) rfl rfl rfl) sa_nil rfl) rfl rfl rfl) rfl (.inl rfl))
    (ss_cons (ss_set g (i := 8) rfl (loc_ok rfl) (by exact methKwK (ok2_Reading_behind x) (fun _ h => h.1) g (hr.mono (by decide)) rfl rfl x.c_Reading x.m_Reading_behind (v (i := 4) rfl rfl rfl) (sk_cons (v (i := 7) rfl rfl rfl) sk_nil) rfl (by rfl) (by rfl) (by rfl) (by rfl)) rfl (.inl rfl))
    (ss_cons (ss_if (st_not (st_tru g (callK (ok_law_same x 12) g (hr.mono (by decide)) rfl x.g__law_same (sa_cons (v (i := 8) rfl rfl rfl) (sa_cons (callK (ok_law_state x) g (hr.mono (by decide)) rfl x.g__law_state (sa_cons (v (i := 3) rfl rfl rfl) (sa_cons (v (i := 7) rfl rfl rfl) (sa_cons (callK (ok_law_places x) g (hr.mono (by decide)) rfl x.g__law_places (sa_cons (v (i := 7) rfl rfl rfl) sa_nil rfl) rfl rfl rfl) sa_nil rfl) rfl) rfl) rfl rfl rfl) sa_nil rfl) rfl) rfl rfl rfl) (fun _ => rfl))) (ss_one (ss_ret se_bl)) ss_nil)
    (ss_cons (ss_set g (i := 9) rfl (loc_ok rfl) (se_lst (sa_cons (methK (ok_Reading_answer x) g (hr.mono (by decide)) rfl rfl x.c_Reading x.m_Reading_answer (v (i := 4) rfl rfl rfl) (sa_cons (v (i := 8) rfl rfl rfl) sa_nil rfl) rfl rfl rfl) (sa_cons (methK (ok_Reading_far x) g (hr.mono (by decide)) rfl rfl x.c_Reading x.m_Reading_far (v (i := 4) rfl rfl rfl) (sa_cons (v (i := 8) rfl rfl rfl) sa_nil rfl) rfl rfl rfl) (sa_cons (methXK (ok_Reading_by_letters x) g tk0 wi0 (hr.mono (by decide)) rfl rfl x.c_Reading x.m_Reading_by_letters (v (i := 4) rfl rfl rfl) (sa_cons (v (i := 8) rfl rfl rfl) sa_nil rfl) rfl rfl rfl) sa_nil rfl) rfl) rfl)) rfl (.inl rfl))
    (ss_one (ss_if (st_not (st_tru g (callK (ok_law_same x 12) g (hr.mono (by decide)) rfl x.g__law_same (sa_cons (v (i := 9) rfl rfl rfl) (sa_cons (se_lst (sa_cons (callK (ok_law_truth x 12) g (hr.mono (by decide)) rfl x.g__law_truth (sa_cons (v (i := 3) rfl rfl rfl) (sa_cons (v (i := 7) rfl rfl rfl) sa_nil rfl) rfl) rfl rfl rfl) (sa_cons (callK (ok_law_far x) g (hr.mono (by decide)) rfl x.g__law_far (sa_cons (v (i := 3) rfl rfl rfl) (sa_cons (v (i := 7) rfl rfl rfl) sa_nil rfl) rfl) rfl rfl rfl) (sa_cons (callK (ok_law_truth x 12) g (hr.mono (by decide)) rfl x.g__law_truth (sa_cons (v (i := 3) rfl rfl rfl) (sa_cons (callK (ok_law_flags x) g (hr.mono (by decide)) rfl x.g__law_flags (sa_cons (v (i := 7) rfl rfl rfl) sa_nil rfl) rfl rfl rfl) sa_nil rfl) rfl) rfl rfl rfl) sa_nil rfl) rfl) rfl)) sa_nil rfl) rfl) rfl rfl rfl) (fun _ => rfl))) (ss_one (ss_ret se_bl)) ss_nil)))))) (fun _ => rfl))
    (ss_cons (ss_set g (i := 6) rfl (loc_ok rfl) (callK (ok_law_of x) g (hr.mono (by decide)) rfl x.g__law_of (sa_cons (v (i := 1) rfl rfl rfl) (sa_cons (se_lst (sa_cons (se_tup (sa_cons se_int (sa_cons se_int sa_nil rfl) rfl)) (sa_cons (se_lst (sa_cons se_int (sa_cons se_int (sa_cons se_int sa_nil rfl) rfl) rfl)) (sa_cons se_non (sa_cons (se_tup (sa_cons se_int (sa_cons (se_neg se_int) (sa_cons se_int sa_nil rfl) rfl) rfl)) (sa_cons (se_tup (sa_cons se_int (sa_cons se_int (sa_cons se_bl sa_nil rfl) rfl) rfl)) sa_nil rfl) rfl) rfl) rfl) rfl)) sa_nil rfl) rfl) rfl rfl rfl) rfl (.inl rfl))
    (ss_one (ss_if (st_ne g (se_try (k := 26) (lam_d x) (tryok x) g (hr.mono (by decide)) rfl x.g__law_try tb rfl rfl (by kernel_rfl) rfl (fun _ _ _ _ _ => rfl) (fun A outer s H E f c' g tk hr => (methXK (ok_Reading_behind x) g tk WI.e (hr.mono (by decide)) rfl rfl x.c_Reading x.m_Reading_behind (v (i := 4) rfl rfl rfl) (sa_cons (v (i := 6) rfl rfl rfl) sa_nil rfl) rfl rfl rfl)) (by decide +kernel)) (se_tup (sa_cons se_str (sa_cons se_non sa_nil rfl) rfl)) rfl) (ss_one (ss_ret se_bl)) ss_nil))))))) (fun _ => rfl))
    (ss_one (ss_ret (se_eq g (se_cint x.ci_Reading_STATES g rfl x.g_Reading (by decide +kernel) rfl) se_int rfl))))))
end
def fa : List He.Fa := ([.glo "_law_bag", .glo "_law_pull", .glo "_law_of", .glo "_law_sum", .glo "_law_atom", .glo "_law_mixed", .glo "_law_depth", .glo "_law_tree", .glo "is_number", .glo "is_within", .glo "are_factors", .glo "is_atom"] : List He.Fa) ++ ([.glo "is_tree", .glo "atoms_in", .glo "sum_text", .glo "tree_text", .glo "_law_same", .glo "_law_twos", .glo "_law_atoms", .glo "_law_value", .glo "_law_flags", .glo "_law_state", .glo "first_row", .glo "_law_some_counts"] : List He.Fa) ++ ([.glo "need_counts", .glo "weighed", .glo "carried", .glo "next_row", .glo "_law_places", .glo "joined", .glo "atom_answer", .glo "is_zero", .glo "far_row", .glo "is_at_least", .glo "row_answer", .glo "_law_holds"] : List He.Fa) ++ ([.glo "_law_truth", .glo "_law_far", .glo "law", .glo "_law_try", .glo "_law_field", .glo "Reading", .glo "Question", .glo "InvalidQuestion", .glo "TooMany", .glo "InvalidCounts", .glo "SIGNS_OF", .glo "Missing"] : List He.Fa) ++ ([.glo "NothingLeft", .glo "SayError", .free "abs", .free "all", .free "any", .free "bool", .free "int", .free "isinstance", .free "len", .free "list", .free "max", .free "range"] : List He.Fa) ++ ([.free "str", .free "sum", .free "super", .free "tuple", .free "zip", .int "MOST_ATOMS" 3, .int "MOST_BOUND" 9, .int "MOST_DEPTH" 4, .int "MOST_FACTOR" 3, .int "MOST_PARTS" 4, .exm "InvalidCounts" "SayError" true, .exm "InvalidQuestion" "SayError" true] : List He.Fa) ++ ([.exm "TooMany" "SayError" true, .cls "Reading", .mkr "Reading", .cls "Question", .mkr "Question", .meth "Question" "__eq__", .meth "Question" "answer", .meth "Question" "atoms", .meth "Question" "joined_by", .meth "Reading" "answer", .meth "Reading" "behind", .meth "Reading" "by_letters"] : List He.Fa) ++ ([.meth "Reading" "far", .meth "Reading" "start", .meth "Reading" "step", .noat "Question" "leaves", .noat "Question" "shape", .noat "Question" "written", .noat "Reading" "asked", .noat "Reading" "leaves"] : List He.Fa)
def fn : List He.DefD := ([⟨("_law_bag", none), "_law_bag", "_law_bag", defArgs s_law_bag, defBody s_law_bag, defScope s_law_bag, [], []⟩, ⟨("_law_pull", none), "_law_pull", "_law_pull", defArgs s_law_pull, defBody s_law_pull, defScope s_law_pull, [], []⟩, ⟨("_law_of", none), "_law_of", "_law_of", defArgs s_law_of, defBody s_law_of, defScope s_law_of, [], []⟩, ⟨("_law_sum", none), "_law_sum", "_law_sum", defArgs s_law_sum, defBody s_law_sum, defScope s_law_sum, [], []⟩, ⟨("_law_atom", none), "_law_atom", "_law_atom", defArgs s_law_atom, defBody s_law_atom, defScope s_law_atom, [], []⟩, ⟨("_law_mixed", none), "_law_mixed", "_law_mixed", defArgs s_law_mixed, defBody s_law_mixed, defScope s_law_mixed, [], []⟩, ⟨("_law_depth", none), "_law_depth", "_law_depth", defArgs s_law_depth, defBody s_law_depth, defScope s_law_depth, [], []⟩, ⟨("_law_tree", none), "_law_tree", "_law_tree", defArgs s_law_tree, defBody s_law_tree, defScope s_law_tree, [], []⟩, ⟨("Question", some "atoms"), "atoms", "Question.atoms", defArgs s_Question_atoms, defBody s_Question_atoms, defScope s_Question_atoms, [], []⟩, ⟨("Reading", some "__init__"), "__init__", "Reading.__init__", defArgs s_Reading_init, defBody s_Reading_init, defScope s_Reading_init, [], []⟩, ⟨("is_number", none), "is_number", "is_number", defArgs s_is_number, defBody s_is_number, defScope s_is_number, [], []⟩, ⟨("is_within", none), "is_within", "is_within", defArgs s_is_within, defBody s_is_within, defScope s_is_within, [], []⟩] : List He.DefD) ++ ([⟨("are_factors", none), "are_factors", "are_factors", defArgs s_are_factors, defBody s_are_factors, defScope s_are_factors, [], []⟩, ⟨("is_atom", none), "is_atom", "is_atom", defArgs s_is_atom, defBody s_is_atom, defScope s_is_atom, [], []⟩, ⟨("is_tree", none), "is_tree", "is_tree", defArgs s_is_tree, defBody s_is_tree, defScope s_is_tree, [], []⟩, ⟨("atoms_in", none), "atoms_in", "atoms_in", defArgs s_atoms_in, defBody s_atoms_in, defScope s_atoms_in, [], []⟩, ⟨("sum_text", none), "sum_text", "sum_text", defArgs s_sum_text, defBody s_sum_text, defScope s_sum_text, [], []⟩, ⟨("tree_text", none), "tree_text", "tree_text", defArgs s_tree_text, defBody s_tree_text, defScope s_tree_text, [], []⟩, ⟨("Question", some "__init__"), "__init__", "Question.__init__", defArgs s_Question_init, defBody s_Question_init, defScope s_Question_init, [], []⟩, ⟨("_law_same", none), "_law_same", "_law_same", defArgs s_law_same, defBody s_law_same, defScope s_law_same, [], []⟩, ⟨("_law_twos", none), "_law_twos", "_law_twos", defArgs s_law_twos, defBody s_law_twos, defScope s_law_twos, [], []⟩, ⟨("_law_atoms", none), "_law_atoms", "_law_atoms", defArgs s_law_atoms, defBody s_law_atoms, defScope s_law_atoms, [], []⟩, ⟨("_law_value", none), "_law_value", "_law_value", defArgs s_law_value, defBody s_law_value, defScope s_law_value, [], []⟩, ⟨("_law_flags", none), "_law_flags", "_law_flags", defArgs s_law_flags, defBody s_law_flags, defScope s_law_flags, [], []⟩] : List He.DefD) ++ ([⟨("_law_state", none), "_law_state", "_law_state", defArgs s_law_state, defBody s_law_state, defScope s_law_state, [], []⟩, ⟨("first_row", none), "first_row", "first_row", defArgs s_first_row, defBody s_first_row, defScope s_first_row, [], []⟩, ⟨("Reading", some "start"), "start", "Reading.start", defArgs s_Reading_start, defBody s_Reading_start, defScope s_Reading_start, [], []⟩, ⟨("Question", some "__eq__"), "__eq__", "Question.__eq__", defArgs s_Question_eq, defBody s_Question_eq, defScope s_Question_eq, [], []⟩, ⟨("_law_some_counts", none), "_law_some_counts", "_law_some_counts", defArgs s_law_some_counts, defBody s_law_some_counts, defScope s_law_some_counts, [], []⟩, ⟨("need_counts", none), "need_counts", "need_counts", defArgs s_need_counts, defBody s_need_counts, defScope s_need_counts, [], []⟩, ⟨("weighed", none), "weighed", "weighed", defArgs s_weighed, defBody s_weighed, defScope s_weighed, [], []⟩, ⟨("carried", none), "carried", "carried", defArgs s_carried, defBody s_carried, defScope s_carried, [], []⟩, ⟨("next_row", none), "next_row", "next_row", defArgs s_next_row, defBody s_next_row, defScope s_next_row, [], []⟩, ⟨("Reading", some "step"), "step", "Reading.step", defArgs s_Reading_step, defBody s_Reading_step, defScope s_Reading_step, [], []⟩, ⟨("Reading", some "behind"), "behind", "Reading.behind", defArgs s_Reading_behind, defBody s_Reading_behind, defScope s_Reading_behind, [], []⟩, ⟨("_law_places", none), "_law_places", "_law_places", defArgs s_law_places, defBody s_law_places, defScope s_law_places, [], []⟩] : List He.DefD) ++ ([⟨("joined", none), "joined", "joined", defArgs s_joined, defBody s_joined, defScope s_joined, [], []⟩, ⟨("atom_answer", none), "atom_answer", "atom_answer", defArgs s_atom_answer, defBody s_atom_answer, defScope s_atom_answer, [], []⟩, ⟨("Question", some "answer"), "answer", "Question.answer", defArgs s_Question_answer, defBody s_Question_answer, defScope s_Question_answer, [], []⟩, ⟨("Reading", some "by_letters"), "by_letters", "Reading.by_letters", defArgs s_Reading_by_letters, defBody s_Reading_by_letters, defScope s_Reading_by_letters, [], []⟩, ⟨("is_zero", none), "is_zero", "is_zero", defArgs s_is_zero, defBody s_is_zero, defScope s_is_zero, [], []⟩, ⟨("far_row", none), "far_row", "far_row", defArgs s_far_row, defBody s_far_row, defScope s_far_row, [], []⟩, ⟨("Question", some "joined_by"), "joined_by", "Question.joined_by", defArgs s_Question_joined_by, defBody s_Question_joined_by, defScope s_Question_joined_by, [], []⟩, ⟨("Reading", some "far"), "far", "Reading.far", defArgs s_Reading_far, defBody s_Reading_far, defScope s_Reading_far, [], []⟩, ⟨("is_at_least", none), "is_at_least", "is_at_least", defArgs s_is_at_least, defBody s_is_at_least, defScope s_is_at_least, [], []⟩, ⟨("row_answer", none), "row_answer", "row_answer", defArgs s_row_answer, defBody s_row_answer, defScope s_row_answer, [], []⟩, ⟨("Reading", some "answer"), "answer", "Reading.answer", defArgs s_Reading_answer, defBody s_Reading_answer, defScope s_Reading_answer, [], []⟩, ⟨("_law_holds", none), "_law_holds", "_law_holds", defArgs s_law_holds, defBody s_law_holds, defScope s_law_holds, [], []⟩] : List He.DefD) ++ ([⟨("_law_truth", none), "_law_truth", "_law_truth", defArgs s_law_truth, defBody s_law_truth, defScope s_law_truth, [], []⟩, ⟨("_law_far", none), "_law_far", "_law_far", defArgs s_law_far, defBody s_law_far, defScope s_law_far, [], []⟩, ⟨("law", none), "law", "law", defArgs s_law, defBody s_law, defScope s_law, [], []⟩, ⟨("_law_try", none), "_law_try", "_law_try", defArgs s_law_try, defBody s_law_try, defScope s_law_try, [], []⟩, ⟨("_law_field", none), "_law_field", "_law_field", defArgs s_law_field, defBody s_law_field, defScope s_law_field, [], []⟩] : List He.DefD)
def ts : List He.Tab := [(fun K => He.ga K "SIGNS_OF", tab_SIGNS_OF.map (·.1))]
def es : List DefE := [dE_InvalidCounts, dE_InvalidQuestion, dE_TooMany, dE_Reading_question]
def tf : List He.Defn := [("law", none)]
def exl (K : PySem.W.Frag) : List Bool := [He.valsB K (He.ga K "SIGNS_OF") (tab_SIGNS_OF.map fun q => (q.1, He.Dv.str q.2)), excB K "InvalidCounts" "/claim/cut.py" none, excB K "InvalidQuestion" "/claim/cut.py" none, excB K "TooMany" "/claim/cut.py" (some "most"), propB K (He.ga K "Reading") "question", isoB K (He.ga K "Question"), insB K (He.ga K "Question"), neB K (He.ga K "Question"), cintB K (He.ga K "Reading") "STATES" 2000]
def ex (K : PySem.W.Frag) : Bool := (exl K).all id
def loose : List Str := (["__name__", "SayError", "Missing", "InvalidCounts", "InvalidQuestion", "TooMany", "InvalidText", "TooWide", "NothingLeft", "is_number", "is_within", "MOST_ATOMS"] : List Str) ++ (["MOST_DEPTH", "MOST_PARTS", "MOST_FACTOR", "MOST_BOUND", "MOST_TEXT", "MOST_BRACKETS", "SIGNS_OF", "are_factors", "is_atom", "is_tree", "atoms_in", "weighed"] : List Str) ++ (["atom_answer", "far_atom", "joined", "need_counts", "sum_text", "tree_text", "Question", "Reader", "is_digit", "MOST_STATES", "DIGITS", "is_at_least"] : List Str) ++ (["is_zero", "carried", "first_row", "next_row", "row_answer", "far_row", "Reading", "_law_bag", "_law_pull", "_law_of", "_law_mixed", "_law_same"] : List Str) ++ (["_law_field", "_law_try", "_law_sum", "_law_atom", "_law_tree", "_law_depth", "_law_atoms", "_law_value", "_law_holds", "_law_truth", "_law_far", "_law_flags"] : List Str) ++ (["_law_some_counts", "_law_state", "_law_twos", "_law_places"] : List Str)
theorem tabW {w : World} {h : Heap} {K : PySem.W.Frag} (c : He.SaysX fa fn ts tf ex w h K) (i : Nat) {t : He.Tab} (e : ts[i]? = some t) : He.dicW K (t.1 K) = some (He.keysIn w.params t.2) := by
  have z : (ts.map fun t => He.dicW K (t.1 K)) = ts.map fun t => some (He.keysIn w.params t.2) := congrArg (fun z : He.AlT => z.2) c.t
  have z2 := congrArg (fun l => l[i]?) z
  simp only [List.getElem?_map, e] at z2
  first | exact Option.some.inj z2 | exact z2 | simpa using z2
theorem exV {w : World} {h : Heap} {K : PySem.W.Frag} (c : He.SaysX fa fn ts tf ex w h K) (i : Nat) {b : Bool} (e : (exl K)[i]? = some b) : b = true := List.all_eq_true.mp c.more b (List.mem_of_getElem? e)
theorem fx {P : Program} {w : World} {h : Heap} {K : PySem.W.Frag} {mg : Str → Option Value} (pf : FileOf P "/claim/cut.py") (X : K.In h) (G : h.Ns mainGlobals mg) (c : SaysE fa fn ts tf ex es w h K) : Fcts P K w mg where
  g__law_bag := He.glo_ok X G (c.x.t.d.fact 0 rfl)
  g__law_pull := He.glo_ok X G (c.x.t.d.fact 1 rfl)
  g__law_of := He.glo_ok X G (c.x.t.d.fact 2 rfl)
  g__law_sum := He.glo_ok X G (c.x.t.d.fact 3 rfl)
  g__law_atom := He.glo_ok X G (c.x.t.d.fact 4 rfl)
  g__law_mixed := He.glo_ok X G (c.x.t.d.fact 5 rfl)
  g__law_depth := He.glo_ok X G (c.x.t.d.fact 6 rfl)
  g__law_tree := He.glo_ok X G (c.x.t.d.fact 7 rfl)
  g_is_number := He.glo_ok X G (c.x.t.d.fact 8 rfl)
  g_is_within := He.glo_ok X G (c.x.t.d.fact 9 rfl)
  g_are_factors := He.glo_ok X G (c.x.t.d.fact 10 rfl)
  g_is_atom := He.glo_ok X G (c.x.t.d.fact 11 rfl)
  g_is_tree := He.glo_ok X G (c.x.t.d.fact 12 rfl)
  g_atoms_in := He.glo_ok X G (c.x.t.d.fact 13 rfl)
  g_sum_text := He.glo_ok X G (c.x.t.d.fact 14 rfl)
  g_tree_text := He.glo_ok X G (c.x.t.d.fact 15 rfl)
  g__law_same := He.glo_ok X G (c.x.t.d.fact 16 rfl)
  g__law_twos := He.glo_ok X G (c.x.t.d.fact 17 rfl)
  g__law_atoms := He.glo_ok X G (c.x.t.d.fact 18 rfl)
  g__law_value := He.glo_ok X G (c.x.t.d.fact 19 rfl)
  g__law_flags := He.glo_ok X G (c.x.t.d.fact 20 rfl)
  g__law_state := He.glo_ok X G (c.x.t.d.fact 21 rfl)
  g_first_row := He.glo_ok X G (c.x.t.d.fact 22 rfl)
  g__law_some_counts := He.glo_ok X G (c.x.t.d.fact 23 rfl)
  g_need_counts := He.glo_ok X G (c.x.t.d.fact 24 rfl)
  g_weighed := He.glo_ok X G (c.x.t.d.fact 25 rfl)
  g_carried := He.glo_ok X G (c.x.t.d.fact 26 rfl)
  g_next_row := He.glo_ok X G (c.x.t.d.fact 27 rfl)
  g__law_places := He.glo_ok X G (c.x.t.d.fact 28 rfl)
  g_joined := He.glo_ok X G (c.x.t.d.fact 29 rfl)
  g_atom_answer := He.glo_ok X G (c.x.t.d.fact 30 rfl)
  g_is_zero := He.glo_ok X G (c.x.t.d.fact 31 rfl)
  g_far_row := He.glo_ok X G (c.x.t.d.fact 32 rfl)
  g_is_at_least := He.glo_ok X G (c.x.t.d.fact 33 rfl)
  g_row_answer := He.glo_ok X G (c.x.t.d.fact 34 rfl)
  g__law_holds := He.glo_ok X G (c.x.t.d.fact 35 rfl)
  g__law_truth := He.glo_ok X G (c.x.t.d.fact 36 rfl)
  g__law_far := He.glo_ok X G (c.x.t.d.fact 37 rfl)
  g_law := He.glo_ok X G (c.x.t.d.fact 38 rfl)
  g__law_try := He.glo_ok X G (c.x.t.d.fact 39 rfl)
  g__law_field := He.glo_ok X G (c.x.t.d.fact 40 rfl)
  g_Reading := He.glo_ok X G (c.x.t.d.fact 41 rfl)
  g_Question := He.glo_ok X G (c.x.t.d.fact 42 rfl)
  g_InvalidQuestion := He.glo_ok X G (c.x.t.d.fact 43 rfl)
  g_TooMany := He.glo_ok X G (c.x.t.d.fact 44 rfl)
  g_InvalidCounts := He.glo_ok X G (c.x.t.d.fact 45 rfl)
  g_SIGNS_OF := He.glo_ok X G (c.x.t.d.fact 46 rfl)
  g_Missing := He.glo_ok X G (c.x.t.d.fact 47 rfl)
  g_NothingLeft := He.glo_ok X G (c.x.t.d.fact 48 rfl)
  g_SayError := He.glo_ok X G (c.x.t.d.fact 49 rfl)
  b_abs := He.free_ok X G (c.x.t.d.fact 50 rfl)
  b_all := He.free_ok X G (c.x.t.d.fact 51 rfl)
  b_any := He.free_ok X G (c.x.t.d.fact 52 rfl)
  b_bool := He.free_ok X G (c.x.t.d.fact 53 rfl)
  b_int := He.free_ok X G (c.x.t.d.fact 54 rfl)
  b_isinstance := He.free_ok X G (c.x.t.d.fact 55 rfl)
  b_len := He.free_ok X G (c.x.t.d.fact 56 rfl)
  b_list := He.free_ok X G (c.x.t.d.fact 57 rfl)
  b_max := He.free_ok X G (c.x.t.d.fact 58 rfl)
  b_range := He.free_ok X G (c.x.t.d.fact 59 rfl)
  b_str := He.free_ok X G (c.x.t.d.fact 60 rfl)
  b_sum := He.free_ok X G (c.x.t.d.fact 61 rfl)
  b_super := He.free_ok X G (c.x.t.d.fact 62 rfl)
  b_tuple := He.free_ok X G (c.x.t.d.fact 63 rfl)
  b_zip := He.free_ok X G (c.x.t.d.fact 64 rfl)
  i_MOST_ATOMS := He.int_ok X G (c.x.t.d.fact 65 rfl)
  i_MOST_BOUND := He.int_ok X G (c.x.t.d.fact 66 rfl)
  i_MOST_DEPTH := He.int_ok X G (c.x.t.d.fact 67 rfl)
  i_MOST_FACTOR := He.int_ok X G (c.x.t.d.fact 68 rfl)
  i_MOST_PARTS := He.int_ok X G (c.x.t.d.fact 69 rfl)
  x_InvalidCounts_SayError := He.exm_ok (c.x.t.d.fact 70 rfl)
  x_InvalidQuestion_SayError := He.exm_ok (c.x.t.d.fact 71 rfl)
  x_TooMany_SayError := He.exm_ok (c.x.t.d.fact 72 rfl)
  c_Reading := He.cls_ok (c.x.t.d.fact 73 rfl)
  mk_Reading := He.mkr_ok (c.x.t.d.fact 74 rfl)
  c_Question := He.cls_ok (c.x.t.d.fact 75 rfl)
  mk_Question := He.mkr_ok (c.x.t.d.fact 76 rfl)
  m_Question_eq := He.meth_ok (c.x.t.d.fact 77 rfl)
  m_Question_answer := He.meth_ok (c.x.t.d.fact 78 rfl)
  m_Question_atoms := He.meth_ok (c.x.t.d.fact 79 rfl)
  m_Question_joined_by := He.meth_ok (c.x.t.d.fact 80 rfl)
  m_Reading_answer := He.meth_ok (c.x.t.d.fact 81 rfl)
  m_Reading_behind := He.meth_ok (c.x.t.d.fact 82 rfl)
  m_Reading_by_letters := He.meth_ok (c.x.t.d.fact 83 rfl)
  m_Reading_far := He.meth_ok (c.x.t.d.fact 84 rfl)
  m_Reading_start := He.meth_ok (c.x.t.d.fact 85 rfl)
  m_Reading_step := He.meth_ok (c.x.t.d.fact 86 rfl)
  f_Question_leaves := ⟨⟨_, _, rfl, by decide +kernel, rfl, He.cls_ok (c.x.t.d.fact 75 rfl), He.noat_ok (c.x.t.d.fact 87 rfl)⟩⟩
  f_Question_shape := ⟨⟨_, _, rfl, by decide +kernel, rfl, He.cls_ok (c.x.t.d.fact 75 rfl), He.noat_ok (c.x.t.d.fact 88 rfl)⟩⟩
  f_Question_written := ⟨⟨_, _, rfl, by decide +kernel, rfl, He.cls_ok (c.x.t.d.fact 75 rfl), He.noat_ok (c.x.t.d.fact 89 rfl)⟩⟩
  f_Reading_asked := ⟨⟨_, _, rfl, by decide +kernel, rfl, He.cls_ok (c.x.t.d.fact 73 rfl), He.noat_ok (c.x.t.d.fact 90 rfl)⟩⟩
  f_Reading_leaves := ⟨⟨_, _, rfl, by decide +kernel, rfl, He.cls_ok (c.x.t.d.fact 73 rfl), He.noat_ok (c.x.t.d.fact 91 rfl)⟩⟩
  t_SIGNS_OF := ktab_of (tabW c.x 0 rfl) (exV c.x 0 rfl)
  e_InvalidCounts := exV c.x 1 rfl
  de_InvalidCounts := (c.def_ 0 rfl).1
  dd_InvalidCounts := (c.def_ 0 rfl).2
  e_InvalidQuestion := exV c.x 2 rfl
  de_InvalidQuestion := (c.def_ 1 rfl).1
  dd_InvalidQuestion := (c.def_ 1 rfl).2
  e_TooMany := exV c.x 3 rfl
  de_TooMany := (c.def_ 2 rfl).1
  dd_TooMany := (c.def_ 2 rfl).2
  p_Reading_question := propB_ok (exV c.x 4 rfl)
  d_Reading_question := DefE.funD (c.def_ 3 rfl).1 (c.def_ 3 rfl).2 rfl
  iso_Question := exV c.x 5 rfl
  ins_Question := exV c.x 6 rfl
  nc_Question := neB_ok (exV c.x 7 rfl)
  ci_Reading_STATES := cintB_ok (exV c.x 8 rfl)
  pf := pf
  d_law_bag := c.x.t.d.def_ 0 rfl
  d_law_pull := c.x.t.d.def_ 1 rfl
  d_law_of := c.x.t.d.def_ 2 rfl
  d_law_sum := c.x.t.d.def_ 3 rfl
  d_law_atom := c.x.t.d.def_ 4 rfl
  d_law_mixed := c.x.t.d.def_ 5 rfl
  d_law_depth := c.x.t.d.def_ 6 rfl
  d_law_tree := c.x.t.d.def_ 7 rfl
  d_Question_atoms := c.x.t.d.def_ 8 rfl
  d_Reading_init := c.x.t.d.def_ 9 rfl
  d_is_number := c.x.t.d.def_ 10 rfl
  d_is_within := c.x.t.d.def_ 11 rfl
  d_are_factors := c.x.t.d.def_ 12 rfl
  d_is_atom := c.x.t.d.def_ 13 rfl
  d_is_tree := c.x.t.d.def_ 14 rfl
  d_atoms_in := c.x.t.d.def_ 15 rfl
  d_sum_text := c.x.t.d.def_ 16 rfl
  d_tree_text := c.x.t.d.def_ 17 rfl
  d_Question_init := c.x.t.d.def_ 18 rfl
  d_law_same := c.x.t.d.def_ 19 rfl
  d_law_twos := c.x.t.d.def_ 20 rfl
  d_law_atoms := c.x.t.d.def_ 21 rfl
  d_law_value := c.x.t.d.def_ 22 rfl
  d_law_flags := c.x.t.d.def_ 23 rfl
  d_law_state := c.x.t.d.def_ 24 rfl
  d_first_row := c.x.t.d.def_ 25 rfl
  d_Reading_start := c.x.t.d.def_ 26 rfl
  d_Question_eq := c.x.t.d.def_ 27 rfl
  d_law_some_counts := c.x.t.d.def_ 28 rfl
  d_need_counts := c.x.t.d.def_ 29 rfl
  d_weighed := c.x.t.d.def_ 30 rfl
  d_carried := c.x.t.d.def_ 31 rfl
  d_next_row := c.x.t.d.def_ 32 rfl
  d_Reading_step := c.x.t.d.def_ 33 rfl
  d_Reading_behind := c.x.t.d.def_ 34 rfl
  d_law_places := c.x.t.d.def_ 35 rfl
  d_joined := c.x.t.d.def_ 36 rfl
  d_atom_answer := c.x.t.d.def_ 37 rfl
  d_Question_answer := c.x.t.d.def_ 38 rfl
  d_Reading_by_letters := c.x.t.d.def_ 39 rfl
  d_is_zero := c.x.t.d.def_ 40 rfl
  d_far_row := c.x.t.d.def_ 41 rfl
  d_Question_joined_by := c.x.t.d.def_ 42 rfl
  d_Reading_far := c.x.t.d.def_ 43 rfl
  d_is_at_least := c.x.t.d.def_ 44 rfl
  d_row_answer := c.x.t.d.def_ 45 rfl
  d_Reading_answer := c.x.t.d.def_ 46 rfl
  d_law_holds := c.x.t.d.def_ 47 rfl
  d_law_truth := c.x.t.d.def_ 48 rfl
  d_law_far := c.x.t.d.def_ 49 rfl
  d_law_try := c.x.t.d.def_ 51 rfl
  d_law_field := c.x.t.d.def_ 52 rfl
abbrev R : PySem.W.OpenRow := PySem.W.OpenLaw.row PySem.Challenge.rw_sharesay_k34_whole_states_behind_counts
abbrev hk : PySem.W.Hook := hookE' 4 fa fn ts tf ex es
def ob (s : PySem.W.SharedT) : AlE := obsE 4 fa fn ts tf ex es (HandSHeadRun.getT s)
theorem ob_eq (s : PySem.W.SharedT) : ob s = hk.obs s.abs := obsE_eq (HandSHeadRun.getT_eq s)
theorem runFa (w : World) : RunA R (PySem.W.view R.prog [68]) 60000 loose (w.withFollow "special-get-raises" false) := by
  intro os
  kernel_rfl
theorem runFc (w : World) : RunC R 4 fa fn ts tf ex es 60000 (w.withFollow "special-get-raises" false) := by
  intro os
  kernel_rfl
theorem runFd (w : World) : RunD R 4 fa fn ts tf ex es 60000 (w.withFollow "special-get-raises" false) := by
  intro os
  kernel_rfl
theorem runFb (w : World) : RunB R hk ob 60000 (w.withFollow "special-get-raises" false) := run_cd (runFc w) (runFd w)
theorem runTa (w : World) : RunA R (PySem.W.view R.prog [68]) 60000 loose (w.withFollow "special-get-raises" true) := by
  intro os
  kernel_rfl
theorem runTc (w : World) : RunC R 4 fa fn ts tf ex es 60000 (w.withFollow "special-get-raises" true) := by
  intro os
  kernel_rfl
theorem runTd (w : World) : RunD R 4 fa fn ts tf ex es 60000 (w.withFollow "special-get-raises" true) := by
  intro os
  kernel_rfl
theorem runTb (w : World) : RunB R hk ob 60000 (w.withFollow "special-get-raises" true) := run_cd (runTc w) (runTd w)
theorem run (w : World) : HandSHeadRun.RunEq R (PySem.W.view R.prog [68]) hk ob 60000 loose w :=
  PySem.W.byRow2 "special-get-raises" (P := fun w => HandSHeadRun.RunEq R (PySem.W.view R.prog [68]) hk ob 60000 loose w) (fun w => run_two (runFa w) (runFb w)) (fun w => run_two (runTa w) (runTb w)) w
theorem facts {P : Program} {w : World} {K : PySem.W.Frag} {h : Heap} {mg : Str → Option Value} {f : Addr} (pf : FileOf P "/claim/cut.py") (X : K.In h) (G : h.Ns mainGlobals mg) (hfa : mg ("law" : Str) = some (.ref f)) (c : SaysE fa fn ts tf ex es w h K) :
    ∃ fd : FuncData, (∀ (s : Shared) (v : Value), BindsTo s fd ⟨[v], []⟩ [("_law_script", v)]) ∧ ∀ base : Heap, K.In base → base.Ns mainGlobals mg → LamX.TabB base mg (He.cT K ("law", none)).1 (He.cT K ("law", none)).2 → FnOk P w K mg base CX0 29 f fd ["_law_script"] (spF K (cl K) sm_law) := by
  obtain ⟨fd, F⟩ := c.x.t.d.def_ 50 rfl
  have e := hfa.symm.trans (He.glo_ok X G (c.x.t.d.fact 38 rfl))
  cases e
  have b := FunD.bindsA (ps := ["_law_script"]) F fun _ _ _ _ _ _ us hl => match us, hl with | [_], _ => rfl
  exact ⟨fd, fun s v => b s [v] rfl, fun base _ _ tb => ok_law (fx pf X G c) tb F⟩
theorem spF_law {K : PySem.W.Frag} {H : Hp} {Q : VK} {E : XK} {a : Addr} {ns : List Int} (hT : H (He.cT K ("law", none)).2 = some (.tbl #[])) (hS : SqL K H a (ns.map V.int)) (hp : ∃ st, sm_law [.p (.scr ns)] [] = .ok (.p (.bl true)) st) (hQ : ∀ H', Q (.bl true) H') : spF K (cl K) sm_law [.ref a] H Q E := by
  obtain ⟨st, hp⟩ := hp
  refine ⟨[], strip H, [], [.p (.scr ns)], ⟨rfl, .nil, fun i c a h => by simp at h, fun i c a h => by simp at h, fun a o e => (strip_to e).1, fun a u e _ => (strip_to e).1, fun i a _ h => by simp at h, Nat.le_refl _, fun a o e => .inl e, fun a u e => (strip_to e).2, fun a u e => (strip_to e).2, fun q hq => ?_⟩, .cons (.scr (strip_sq hS)) .nil, ?_⟩
  · have e : q = ((He.cT K ("law", none)).2, lamQ) := by simpa using (show q ∈ [((He.cT K ("law", none)).2, lamQ)] from hq)
    rw [e]
    exact LamX.TabS.nil hT
  rw [hp]
  intro ρ' G' H' b p s R u
  cases u
  exact hQ H'
end K34
open PySem PySem.W PySem.Calls PyProof.Rows
theorem K34.fileOf : Y.FileOf (PySem.Challenge.rw_sharesay_k34_whole_states_behind_counts).prog "/claim/cut.py" := ⟨by kernel_rfl, by kernel_rfl⟩
theorem PySem.Challenge.cw_sharesay_k34_whole_states_behind_counts_holds : PySem.Challenge.rw_sharesay_k34_whole_states_behind_counts.Holds := by
  w_on; o_law
  refine HandSHeadRun.head_any (r := OpenLaw.row PySem.Challenge.rw_sharesay_k34_whole_states_behind_counts) (q := view (OpenLaw.row PySem.Challenge.rw_sharesay_k34_whole_states_behind_counts).prog [68]) (H := K34.hk) (ob := K34.ob) (M := 60000) (loose := K34.loose) (d := HandSHeadRun.topDef (OpenLaw.row PySem.Challenge.rw_sharesay_k34_whole_states_behind_counts).prog 68) (kwd := []) K34.ob_eq
    (by kernel_rfl) (fun s => by kernel_rfl) K34.run (by kernel_rfl) (by kernel_rfl) (by kernel_rfl) (by rfl) (by first | assumption | decide +kernel) (by decide +kernel) ⟨rfl, rfl, rfl, rfl, rfl, by decide +kernel⟩ ?hw ?hc
  case hw => w_witness2
  case hc =>
    refine LamX.walk_ofTsE (l := PySem.Challenge.rw_sharesay_k34_whole_states_behind_counts) (n := 63) (k := 29) (x := "_law_script") (CX := fun _ => L2.CX0) rfl (by decide) (by kernel_rfl) ⟨rfl, by decide, by decide⟩ ?F (fun _ _ _ _ _ z => z)
    intro w mg fa h Y G hmg0
    obtain ⟨K, KX, c⟩ := Y
    have hmg : mg ("law" : PySem.Str) = some (.ref fa) := by
      have e : (HandSHeadRun.topDef (OpenLaw.row PySem.Challenge.rw_sharesay_k34_whole_states_behind_counts).prog 68).name = ("law" : PySem.Str) := by kernel_rfl
      rw [← e]
      exact hmg0
    obtain ⟨fd, hb, hF⟩ := K34.facts (P := (PySem.Challenge.rw_sharesay_k34_whole_states_behind_counts).prog) (w := w) K34.fileOf KX G hmg c
    have one : ∀ {Q : Addr × Addr → Prop}, Q (He.cT K ("law", none)) → ∀ p ∈ [He.cT K ("law", none)], Q p := fun {Q} q p hp => by
      have e : p = He.cT K ("law", none) := by simpa using hp
      rw [e]; exact q
    exact ⟨K, KX, fd, [He.cT K ("law", none)], Y.spF K (K34.cl K) K34.sm_law, one (c.x.empty _ (by simp [K34.tf])), one (c.x.out _ (by simp [K34.tf])), one (PySem.W.codeHd_of_K KX (c.x.hd _ (by simp [K34.tf]))), hb,
      fun H a ns hl _ hT hS => K34.spF_law (hT _ (by simp)) hS (K34.plain ns (by omega)) fun _ => rfl, fun base b1 b2 b3 => hF base b1 b2 (b3 _ (by simp))⟩

