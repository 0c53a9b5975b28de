import PyProof.Rows.All
import Wide.All
import OpenK.AllK
import Wide.FinOn
import HandS.ForMost
import HandS.IsInst
import HandS.Property
import HandS.Wide
import HandS.Conv
import HandS.Style
import HandS.FStr
import HandS.Defaults
import HandS.Exc
import HandS.ExcOwn
import HandS.WordsExc
import HandS.TryMany
import HandS.Star
import HandS.ClsMeth
import HandS.Lambda
import KE.KeyNested
import KE.KDictKeyed
import HandS.TupAny
import HandS.Deep
import HandS.Rev
import HandS.Zip
import HandS.TupLe
import HandS.RaiseMore
import HandS.HeadHook4
import PyProof.RulesMatch
import KE.GoesMore
import HandS.MakeKwOnly
import HandS.HeadHook3
import HandS.ExcInit
import KE.KExcSuper
import HandS.ExcField
import HandS.HotCalls
import OpenK.KOps
import OpenK.KMeth
import KE.KCallOwn
import PyProof.InstEq
import KE.KSortTupG
import HandS.TupSets
import HandS.SortInts
import HandS.Text
import PyProof.ListRange
import HandS.Dict
import HandS.List
import HandS.Head2
import PyProof.StrOps2
import HandS.DictComp
import KE.GoesEnum
import HandS.HeadNt
import HandS.Replace
import KE.KDictPairs
import KE.KDictDisplayH
import HandS.GenCall
import HandS.GenList
import HandS.Strs
import HandS.OwnEq
import KE.SortData
import PyProof.TupleOfSeq
import HandS.GenOver
import PyProof.SetRoads
import PyProof.Rows.StrIntSpec
import PyProof.FString3
import HandS.SetFor
import HandS.SetBool
import HandS.TryOnly
import HandS.More
import HandS.Iter
import KE.KExcIs
import HandS.ExcValue
import HandS.ExcIs
import PyProof.Rows.StrCountLaw
import HandS.Codes
import HandS.Base
import HandS.Call
import HandS.Words
import HandS.Head0
import HandS.Head1
import HandS.HeadEnd
import HandS.HeadWalk
import Wide.Once
import PySem.Challenge.RW_sharesay_k53_rules_refused
set_option Elab.async false
set_option linter.all false
set_option maxRecDepth 100000
set_option maxHeartbeats 8000000
namespace Y
open PySem L2
inductive P where
  | non | bl (b : Bool) | int (i : Int) | str (s : Str)
  | tup (l : List P) | lst (l : List P) | scr (l : List Int)
  | dk (ks : List Key) (l : List P)
  | obj (c : Nat) (l : List P)
  /-- an exception of the class number c, its fields by place -/
  | exn (c : Nat) (l : List P)
  /-- the lambda number i of the frame number j -/
  | lam (j i : Nat)
  /-- a class by number -/
  | cls (c : Nat)
  /-- a dict that is never written again; keys ints and texts -/
  | fd (ks : List Key) (l : List P)
  /-- .. keys tuples of ints, texts, tuples -/
  | fn (ks : List P) (l : List P)
inductive W where
  | p (x : P) | r (i : Nat)
inductive Cell where
  | lst (l : List W) | dk (ks : List Key) (l : List W) | ins (c : Nat) (l : List W) | dead | dn (ks : List P) (l : List W)
structure Exn where
  c : Nat
  l : List P
inductive Res (α : Type) where
  | ok (a : α) (st : List Cell) | exc (x : Exn) (st : List Cell) | no
def Res.bind {α β : Type} (r : Res α) (k : α → List Cell → Res β) : Res β := match r with
  | .ok a st => k a st
  | .exc x st => .exc x st
  | .no => .no
abbrev Sg := List (Option W)
abbrev EM := Sg → List Cell → Res W
inductive Fl where
  | nx | rt (w : W) | bk | ct
abbrev FM := List W → List Cell → Res W
structure LamR where
  params : Arguments
  body : Expr
  scope : Scope
  dfl : Bool
def lamO (r : LamR) (q : Str) (clos : List (Str × Addr)) (pm cv ct dV : Value) : Obj :=
  { cls := .type "function", data := .func { PySem.W.kla_fn "<lambda>" q r.params r.body r.scope clos pm cv ct with defaults := dV } }
structure Cls where
  l : List (Addr × List Str)
  /-- the tables of code objects, each with the name that its code objects bear -/
  tb : List (Addr × Str) := []
  /-- the lambdas by number -/
  lm : List LamR := []
  /-- the cells of the frames whose lambdas are told, each with the name that its lambdas bear -/
  fr : List (Str × List (Str × Addr)) := []
  /-- the World, where hashes of texts are asked for -/
  wd : Option World := none
instance : GetElem? Cls Nat (Addr × List Str) fun c i => i < c.l.length where
  getElem c i h := c.l[i]
  getElem? c i := c.l[i]?
mutual
def nkP : P → Option NestedKey
  | .non => some .none
  | .int i => some (.num i)
  | .str z => some (.text z)
  | .tup l => (nkPs l).map .tup
  | _ => none
def nkPs : List P → Option (List NestedKey)
  | [] => some []
  | x :: l => match nkP x, nkPs l with
    | some k, some ks => some (k :: ks)
    | _, _ => none
end
def nkT : P → Option NestedKey
  | .tup l => match nkP (.tup l) with
    | some k => if k.depth ≤ 8 then some k else none
    | none => none
  | _ => none
def nEnts (w : World) : List NestedKey → List Addr → List Value → List DictEntry
  | k :: ks, a :: as, v :: vs => ⟨k.hash w, .ref a, v⟩ :: nEnts w ks as vs
  | _, _, _ => []
def NDat (wd : Option World) (od : Obj) (nks : List NestedKey) (as : List Addr) (vs : List V) : Prop :=
  ∃ w0 vals es ep, wd = some w0 ∧ od.ExactDict ∧ od.data = .dict es ep ∧ Vals vs vals ∧ es.toList = nEnts w0 nks as vals ∧ nks.length = as.length ∧ nks.length = vs.length ∧ nks.Nodup
def NDict (wd : Option World) (a : Addr) (nks : List NestedKey) (as : List Addr) (vs : List V) : HO := .ext fun h => ∃ od, h.get? a = some od ∧ NDat wd od nks as vs
def exq (a : Addr) (oe : Obj) : HO := .ext fun h => h.get? a = some oe
section
variable (K : PySem.W.Frag) (cl : Cls) (G : Hp)
mutual
inductive RP : P → V → Prop
  | non : RP .non .non
  | bl (b : Bool) : RP (.bl b) (.bl b)
  | int (i : Int) : RP (.int i) (.int i)
  | str (s : Str) : RP (.str s) (.str s)
  | tup {a : Addr} {vs : List V} {l : List P} : SqT K G a vs → RPs l vs → RP (.tup l) (.ref a)
  | lst {a : Addr} {vs : List V} {l : List P} : G a = some (.lst vs) → RPs l vs → RP (.lst l) (.ref a)
  | scr {a : Addr} {l : List Int} : SqL K G a (l.map V.int) → RP (.scr l) (.ref a)
  | dk {a : Addr} {ks : List Key} {vs : List V} {l : List P} : G a = some (.dK (ks.zip vs)) → ks.length = vs.length → RPs l vs → RP (.dk ks l) (.ref a)
  | obj {a C dx : Addr} {c : Nat} {ns : List Str} {vs : List V} {l : List P} : cl[c]? = some (C, ns) → G a = some (.ins C dx (ns.zip vs)) → ns.length = vs.length → RPs l vs → RP (.obj c l) (.ref a)
  | exn {a C dd : Addr} {oe : Obj} {c : Nat} {ns : List Str} {vs : List V} {l : List P} : cl[c]? = some (C, ns) → (oe.cls = .ref C ∧ oe.dict = some dd ∧ ∃ fs, oe.data = .fields fs) → G a = some (exq a oe) → G dd = some (.xd (ns.zip vs)) → ns.length = vs.length → RPs l vs → RP (.exn c l) (.ref a)
  | lam {f c' : Addr} {j i : Nat} {r : LamR} {q : Str} {cs : List (Str × Addr)} {pm ct dV : Value} : cl.lm[i]? = some r → cl.fr[j]? = some (q, cs) → G f = some (exq f (lamO r q (cloFrom cs r.scope.names []) pm (.ref c') ct dV)) → G c' = some (LamX.CodeO c' q) → (r.dfl = false ∧ dV = .none ∨ r.dfl = true ∧ ∃ T, dV = .ref T ∧ G T = some (.tup [.int 0])) → RP (.lam j i) (.ref f)
  | cls {C : Addr} {c : Nat} {ns : List Str} : cl[c]? = some (C, ns) → RP (.cls c) (.ref C)
  | fd {a : Addr} {od : Obj} {ks : List Key} {vs : List V} {l : List P} : G a = some (.frz od (.dK (ks.zip vs))) → ks.length = vs.length → RPs l vs → RP (.fd ks l) (.ref a)
  | fn {a : Addr} {od : Obj} {nks : List NestedKey} {as : List Addr} {vs us : List V} {ks l : List P} : (a == sysModules) = false → G a = some (exq a od) → NDat cl.wd od nks as vs → ks.map nkT = nks.map some → us = as.map V.ref → RPs ks us → RPs l vs → RP (.fn ks l) (.ref a)
inductive RPs : List P → List V → Prop
  | nil : RPs [] []
  | cons {x : P} {v : V} {l : List P} {vs : List V} : RP x v → RPs l vs → RPs (x :: l) (v :: vs)
end
end
def Sub (G G' : Hp) : Prop := ∀ a o, G a = some o → G' a = some o
theorem Sub.refl (G : Hp) : Sub G G := fun _ _ h => h
theorem Sub.trans {G G' G'' : Hp} (a : Sub G G') (b : Sub G' G'') : Sub G G'' := fun x o h => b x o (a x o h)
theorem Sub.new {G : Hp} {p : Addr} {o : HO} (h : G p = none) : Sub G (upd G p o) := fun a u e => by
  rw [upd_ne (ne_of_none e h)]; exact e
theorem Sub.rd {G G' : Hp} (s : Sub G G') {a : Addr} {u : HO} (h : Rd G a u) : Rd G' a u := by
  rcases h with h | ⟨o, h⟩
  · exact .inl (s _ _ h)
  · exact .inr ⟨o, s _ _ h⟩
theorem Sub.sqL {K : PySem.W.Frag} {G G' : Hp} (s : Sub G G') {a : Addr} {xs : List V} (h : SqL K G a xs) : SqL K G' a xs := by
  rcases h with h | h
  · exact .inl (s.rd h)
  · exact .inr h
theorem Sub.sqT {K : PySem.W.Frag} {G G' : Hp} (s : Sub G G') {a : Addr} {xs : List V} (h : SqT K G a xs) : SqT K G' a xs := by
  rcases h with h | h
  · exact .inl (s.rd h)
  · exact .inr h
section
variable {K : PySem.W.Frag} {cl : Cls} {G G' : Hp}
mutual
theorem RP.mono (s : Sub G G') : ∀ {x : P} {v : V}, RP K cl G x v → RP K cl G' x v
  | _, _, .non => .non
  | _, _, .bl b => .bl b
  | _, _, .int i => .int i
  | _, _, .str z => .str z
  | _, _, .tup h r => .tup (s.sqT h) (RPs.mono s r)
  | _, _, .lst h r => .lst (s _ _ h) (RPs.mono s r)
  | _, _, .scr h => .scr (s.sqL h)
  | _, _, .dk h e r => .dk (s _ _ h) e (RPs.mono s r)
  | _, _, .obj c h e r => .obj c (s _ _ h) e (RPs.mono s r)
  | _, _, .exn c x h d e r => .exn c x (s _ _ h) (s _ _ d) e (RPs.mono s r)
  | _, _, .lam a b c d e => .lam a b (s _ _ c) (s _ _ d) (e.elim .inl fun ⟨h, T, h1, h2⟩ => .inr ⟨h, T, h1, s _ _ h2⟩)
  | _, _, .cls h => .cls h
  | _, _, .fd h e r => .fd (s _ _ h) e (RPs.mono s r)
  | _, _, .fn n h d e u r q => .fn n (s _ _ h) d e u (RPs.mono s r) (RPs.mono s q)
theorem RPs.mono (s : Sub G G') : ∀ {l : List P} {vs : List V}, RPs K cl G l vs → RPs K cl G' l vs
  | _, _, .nil => .nil
  | _, _, .cons h r => .cons (RP.mono s h) (RPs.mono s r)
end
theorem RPs.length : ∀ {l : List P} {vs : List V}, RPs K cl G l vs → l.length = vs.length
  | _, _, .nil => rfl
  | _, _, .cons _ r => congrArg Nat.succ (RPs.length r)
theorem RPs.get : ∀ {l : List P} {vs : List V} {i : Nat} {x : P}, RPs K cl G l vs → l[i]? = some x → ∃ v, vs[i]? = some v ∧ RP K cl G x v
  | _, _, _, _, .nil, e => by simp at e
  | _, _, 0, _, .cons h _, e => by simp at e; subst e; exact ⟨_, rfl, h⟩
  | _, _, i + 1, x, .cons _ r, e => by
    obtain ⟨u, h1, h2⟩ := RPs.get (i := i) (x := x) r (by simpa using e)
    exact ⟨u, by simpa using h1, h2⟩
theorem RPs.append : ∀ {l m : List P} {vs us : List V}, RPs K cl G l vs → RPs K cl G m us → RPs K cl G (l ++ m) (vs ++ us)
  | _, _, _, _, .nil, s => s
  | _, _, _, _, .cons h r, s => .cons h (RPs.append r s)
theorem RPs.take : ∀ {l : List P} {vs : List V} (n : Nat), RPs K cl G l vs → RPs K cl G (l.take n) (vs.take n)
  | _, _, 0, _ => .nil
  | _, _, _ + 1, .nil => .nil
  | _, _, n + 1, .cons h r => .cons h (RPs.take n r)
theorem RPs.drop : ∀ {l : List P} {vs : List V} (n : Nat), RPs K cl G l vs → RPs K cl G (l.drop n) (vs.drop n)
  | _, _, 0, r => r
  | _, _, _ + 1, .nil => .nil
  | _, _, n + 1, .cons _ r => RPs.drop n r
theorem RPs.ints : ∀ (l : List Int), RPs K cl G (l.map P.int) (l.map V.int)
  | [] => .nil
  | i :: l => .cons (.int i) (RPs.ints l)
end
def RW (K : PySem.W.Frag) (cl : Cls) (ρ : List Addr) (G : Hp) : W → V → Prop
  | .p x, v => RP K cl G x v
  | .r i, v => ∃ a, ρ[i]? = some a ∧ v = .ref a
inductive RWs (K : PySem.W.Frag) (cl : Cls) (ρ : List Addr) (G : Hp) : List W → List V → Prop
  | nil : RWs K cl ρ G [] []
  | cons {w : W} {v : V} {l : List W} {vs : List V} : RW K cl ρ G w v → RWs K cl ρ G l vs → RWs K cl ρ G (w :: l) (v :: vs)
section
variable {K : PySem.W.Frag} {cl : Cls} {ρ ρ' : List Addr} {G G' : Hp}
theorem RW.mono (p : ρ <+: ρ') (s : Sub G G') {w : W} {v : V} (h : RW K cl ρ G w v) : RW K cl ρ' G' w v := by
  cases w with
  | p x => exact RP.mono s h
  | r i =>
    obtain ⟨a, e, q⟩ := h
    obtain ⟨t, rfl⟩ := p
    refine ⟨a, ?_, q⟩
    have hi : i < ρ.length := (List.getElem?_eq_some_iff.mp e).1
    rw [List.getElem?_append_left hi]; exact e
theorem RWs.mono (p : ρ <+: ρ') (s : Sub G G') : ∀ {l : List W} {vs : List V}, RWs K cl ρ G l vs → RWs K cl ρ' G' l vs
  | _, _, .nil => .nil
  | _, _, .cons h r => .cons (h.mono p s) (RWs.mono p s r)
theorem RWs.length : ∀ {l : List W} {vs : List V}, RWs K cl ρ G l vs → l.length = vs.length
  | _, _, .nil => rfl
  | _, _, .cons _ r => congrArg Nat.succ (RWs.length r)
theorem RWs.get : ∀ {l : List W} {vs : List V} {i : Nat} {x : W}, RWs K cl ρ G l vs → l[i]? = some x → ∃ v, vs[i]? = some v ∧ RW K cl ρ G x v
  | _, _, _, _, .nil, e => by simp at e
  | _, _, 0, _, .cons h _, e => by simp at e; subst e; exact ⟨_, rfl, h⟩
  | _, _, i + 1, x, .cons _ r, e => by
    obtain ⟨u, h1, h2⟩ := RWs.get (i := i) (x := x) r (by simpa using e)
    exact ⟨u, by simpa using h1, h2⟩
theorem RWs.append : ∀ {l m : List W} {vs us : List V}, RWs K cl ρ G l vs → RWs K cl ρ G m us → RWs K cl ρ G (l ++ m) (vs ++ us)
  | _, _, _, _, .nil, s => s
  | _, _, _, _, .cons h r, s => .cons h (RWs.append r s)
theorem RWs.set {w : W} {v : V} (h : RW K cl ρ G w v) : ∀ {l : List W} {vs : List V} (i : Nat), RWs K cl ρ G l vs → RWs K cl ρ G (l.set i w) (vs.set i v)
  | _, _, _, .nil => .nil
  | _, _, 0, .cons _ r => .cons h r
  | _, _, i + 1, .cons q r => .cons q (RWs.set h i r)
theorem RWs.take : ∀ {l : List W} {vs : List V} (n : Nat), RWs K cl ρ G l vs → RWs K cl ρ G (l.take n) (vs.take n)
  | _, _, 0, _ => .nil
  | _, _, _ + 1, .nil => .nil
  | _, _, n + 1, .cons h r => .cons h (RWs.take n r)
theorem RWs.drop : ∀ {l : List W} {vs : List V} (n : Nat), RWs K cl ρ G l vs → RWs K cl ρ G (l.drop n) (vs.drop n)
  | _, _, 0, r => r
  | _, _, _ + 1, .nil => .nil
  | _, _, n + 1, .cons _ r => RWs.drop n r
theorem RWs.of_pures : ∀ {l : List P} {vs : List V}, RPs K cl G l vs → RWs K cl ρ G (l.map W.p) vs
  | _, _, .nil => .nil
  | _, _, .cons h r => .cons h (RWs.of_pures r)
def pures : List W → Option (List P)
  | [] => some []
  | .p x :: l => (pures l).map (x :: ·)
  | .r _ :: _ => none
theorem pures_eq : ∀ {l : List W} {m : List P}, pures l = some m → l = m.map W.p
  | [], m, h => by
    obtain rfl : [] = m := Option.some.inj h
    rfl
  | .p x :: l, m, h => by
    have h : (pures l).map (x :: ·) = some m := h
    cases e : pures l with
    | none => rw [e] at h; cases h
    | some k =>
      rw [e] at h
      obtain rfl : x :: k = m := Option.some.inj h
      rw [pures_eq e]; rfl
  | .r i :: l, m, h => by cases h
theorem RWs.pure' : ∀ {l : List P} {vs : List V}, RWs K cl ρ G (l.map W.p) vs → RPs K cl G l vs
  | [], _, .nil => .nil
  | _ :: _, _, .cons h r => .cons h (RWs.pure' r)
theorem RWs.pures {l : List W} {m : List P} {vs : List V} (h : RWs K cl ρ G l vs) (e : Y.pures l = some m) : RPs K cl G m vs := by
  rw [pures_eq e] at h; exact h.pure'
end
def RS (K : PySem.W.Frag) (cl : Cls) (ρ : List Addr) (G : Hp) (σ : Sg) (τ : L2.St) : Prop :=
  σ.length = τ.length ∧ ∀ (i : Nat) (w : W), σ[i]? = some (some w) → ∃ v, τ[i]? = some (some v) ∧ RW K cl ρ G w v
def CA (K : PySem.W.Frag) (cl : Cls) (ρ : List Addr) (G : Hp) (H : Hp) (a : Addr) : Cell → Prop
  | .lst l => ∃ vs, H a = some (.lst vs) ∧ RWs K cl ρ G l vs
  | .dk ks l => ∃ vs, H a = some (.dK (ks.zip vs)) ∧ ks.length = vs.length ∧ RWs K cl ρ G l vs
  | .ins c l => ∃ C dx ns vs, cl[c]? = some (C, ns) ∧ H a = some (.ins C dx (ns.zip vs)) ∧ vs.length ≤ ns.length ∧ RWs K cl ρ G l vs
  | .dead => ∃ o, G a = some o
  | .dn ks l => ∃ nks as vs, (a == sysModules) = false ∧ H a = some (NDict cl.wd a nks as vs) ∧ ks.map nkT = nks.map some ∧ RPs K cl G ks (as.map V.ref) ∧ RWs K cl ρ G l vs
def strip (H : Hp) : Hp := fun a => match H a with
  | some (.tbl _) => none
  | o => o
def NT (u : HO) : Prop := ∀ ps, u ≠ .tbl ps
theorem strip_of {H : Hp} {a : Addr} {u : HO} (h : H a = some u) (nt : NT u) : strip H a = some u := by
  unfold strip
  rw [h]
  split
  · rename_i ps e
    exact absurd (Option.some.inj e) (nt ps)
  · rfl
theorem strip_to {H : Hp} {a : Addr} {u : HO} (h : strip H a = some u) : H a = some u ∧ NT u := by
  unfold strip at h
  split at h
  · cases h
  · rename_i n
    exact ⟨h, fun ps e => n ps (by rw [h, e])⟩
theorem strip_none {H : Hp} {a : Addr} (h : strip H a = none) : H a = none ∨ ∃ ps, H a = some (.tbl ps) := by
  cases e : H a with
  | none => exact .inl rfl
  | some u =>
    by_cases nt : NT u
    · rw [strip_of e nt] at h; cases h
    · exact .inr (Classical.byContradiction fun z => nt fun ps q => z ⟨ps, by rw [q]⟩)
def TabG (G H : Hp) (P : Addr) (q : Str) : Prop := ∃ ps : Array Value, H P = some (.tbl ps) ∧ TriplesOk ps.toList ∧ ∀ (pos : Pos) (cv : Value), codeAmong pos ps.toList = some cv → ∃ c, cv = .ref c ∧ G c = some (LamX.CodeO c q)
theorem TabG.nil {G H : Hp} {P : Addr} {q : Str} (h : H P = some (.tbl #[])) : TabG G H P q := ⟨#[], h, True.intro, fun pos cv hc => by
  have z : codeAmong pos [] = some cv := hc
  simp [codeAmong] at z⟩
theorem TabG.ext {G H H' : Hp} {P : Addr} {q : Str} (t : TabG G H P q) (e : ∀ b o, H b = some o → H' b = some o) : TabG G H' P q := by
  obtain ⟨ps, h1, h2, h3⟩ := t
  exact ⟨ps, e _ _ h1, h2, h3⟩
theorem TabG.sub {G G' H : Hp} {P : Addr} {q : Str} (t : TabG G H P q) (s : Sub G G') : TabG G' H P q := by
  obtain ⟨ps, h1, h2, h3⟩ := t
  exact ⟨ps, h1, h2, fun pos cv hc => by
    obtain ⟨c, e1, e2⟩ := h3 pos cv hc
    exact ⟨c, e1, s _ _ e2⟩⟩
theorem tabs_nt {G H : Hp} {P p : Addr} {q : Str} {o : HO} (t : TabG G H P q) (h : H p = some o) (nt : NT o) : P ≠ p := fun e => by
  obtain ⟨ps, z, _⟩ := t
  rw [e, h] at z
  exact nt ps (Option.some.inj z)
theorem tabs_new {G H : Hp} {P p : Addr} {q : Str} {o : HO} (t : TabG G H P q) (h : H p = none) : TabG G (upd H p o) P q := t.ext fun b u e => by
  rw [upd_ne (ne_of_none e h)]; exact e
def PlO (u : HO) : Prop := NT u ∧ True
theorem tabs_upd {G H : Hp} {P p : Addr} {q : Str} {o u : HO} (t : TabG G H P q) (h : H p = some u) (hu : PlO u) : TabG G (upd H p o) P q := by
  have ne := tabs_nt t h hu.1
  obtain ⟨ps, e1, e2, e3⟩ := t
  exact ⟨ps, by rw [upd_ne ne]; exact e1, e2, e3⟩
theorem po_of {u : HO} (h : match u with | .tbl _ => False | .ext _ => False | _ => True) : PlO u := by
  refine ⟨fun ps z => ?_, trivial⟩
  subst z; exact h
structure En where
  H0 : Hp
  n0 : Nat
  G0 : Hp
structure Rel (K : PySem.W.Frag) (cl : Cls) (E0 : En) (ρ : List Addr) (G : Hp) (st : List Cell) (H : Hp) : Prop where
  len : ρ.length = st.length
  nd : ρ.Nodup
  cell : ∀ (i : Nat) c a, st[i]? = some c → ρ[i]? = some a → CA K cl ρ G H a c
  sep : ∀ (i : Nat) c a, st[i]? = some c → ρ[i]? = some a → c = .dead ∨ G a = none
  sub : Sub G H
  old : ∀ a u, E0.H0 a = some u → (∀ i : Nat, i < E0.n0 → ρ[i]? ≠ some a) → H a = some u
  new : ∀ (i : Nat) a, E0.n0 ≤ i → ρ[i]? = some a → E0.H0 a = none
  n0 : E0.n0 ≤ ρ.length
  grow : ∀ a o, G a = some o → E0.G0 a = some o ∨ E0.H0 a = none ∨ ∃ i : Nat, i < E0.n0 ∧ ρ[i]? = some a
  ent : ∀ a u, E0.H0 a = some u → NT u
  gnt : ∀ a u, G a = some u → NT u
  tabs : ∀ p ∈ cl.tb, TabG G H p.1 p.2
section
variable {K : PySem.W.Frag} {cl : Cls} {E0 : En} {ρ ρ' : List Addr} {G G' : Hp} {st : List Cell} {H H' : Hp}
theorem CA.mono (p : ρ <+: ρ') (s : Sub G G') {a : Addr} (e : H' a = H a) : ∀ {c : Cell}, CA K cl ρ G H a c → CA K cl ρ' G' H' a c
  | .lst l, ⟨vs, h, r⟩ => ⟨vs, e.trans h, r.mono p s⟩
  | .dk ks l, ⟨vs, h, z, r⟩ => ⟨vs, e.trans h, z, r.mono p s⟩
  | .ins c l, ⟨C, dx, ns, vs, k, h, z, r⟩ => ⟨C, dx, ns, vs, k, e.trans h, z, r.mono p s⟩
  | .dead, ⟨o, h⟩ => ⟨o, s _ _ h⟩
  | .dn ks l, ⟨nks, as, vs, n, h, z, q, r⟩ => ⟨nks, as, vs, n, e.trans h, z, RPs.mono s q, r.mono p s⟩
theorem Rel.at (R : Rel K cl E0 ρ G st H) {i : Nat} {c : Cell} (h : st[i]? = some c) : ∃ a, ρ[i]? = some a ∧ CA K cl ρ G H a c ∧ (c = .dead ∨ G a = none) := by
  have hi : i < st.length := (List.getElem?_eq_some_iff.mp h).1
  have hj : i < ρ.length := by rw [R.len]; exact hi
  exact ⟨ρ[i], by simp [hj], R.cell i c _ h (by simp [hj]), R.sep i c _ h (by simp [hj])⟩
theorem Rel.there (R : Rel K cl E0 ρ G st H) {i : Nat} {a : Addr} (h : ρ[i]? = some a) : ∃ o, H a = some o := by
  have hi : i < ρ.length := (List.getElem?_eq_some_iff.mp h).1
  have hj : i < st.length := by rw [← R.len]; exact hi
  have x := R.cell i _ a (List.getElem?_eq_getElem hj) h
  cases e : st[i] with
  | lst l => rw [e] at x; obtain ⟨vs, z, _⟩ := x; exact ⟨_, z⟩
  | dk ks l => rw [e] at x; obtain ⟨vs, z, _⟩ := x; exact ⟨_, z⟩
  | ins c l => rw [e] at x; obtain ⟨C, dx, ns, vs, _, z, _⟩ := x; exact ⟨_, z⟩
  | dead => rw [e] at x; obtain ⟨o, z⟩ := x; exact ⟨o, R.sub _ _ z⟩
  | dn ks l => rw [e] at x; obtain ⟨_, _, _, _, z, _⟩ := x; exact ⟨_, z⟩
theorem Rel.gnone (R : Rel K cl E0 ρ G st H) {p : Addr} (h : H p = none) : G p = none := by
  cases e : G p with
  | none => rfl
  | some o => rw [R.sub _ _ e] at h; cases h
theorem Rel.fresh0 (R : Rel K cl E0 ρ G st H) {p : Addr} (h : H p = none) : E0.H0 p = none := by
  cases e : E0.H0 p with
  | none => rfl
  | some u =>
    by_cases q : ∀ i : Nat, i < E0.n0 → ρ[i]? ≠ some p
    · rw [R.old p u e q] at h; cases h
    · exfalso
      apply q
      intro i _ z
      obtain ⟨o, y⟩ := R.there z
      rw [h] at y; cases y
theorem Rel.froze (R : Rel K cl E0 ρ G st H) {p : Addr} {o : HO} (h : H p = none) (nt : NT o := by intro _ z; cases z) : Rel K cl E0 ρ (upd G p o) st (upd H p o) := by
  have gp := R.gnone h
  have ne : ∀ (i : Nat) a, ρ[i]? = some a → a ≠ p := fun i a e z => by
    obtain ⟨u, q⟩ := R.there e
    rw [z, h] at q; cases q
  refine ⟨R.len, R.nd, fun i c a e1 e2 => ?_, fun i c a e1 e2 => ?_, fun a u e => ?_, fun a u e q => ?_, R.new, R.n0, fun a u e => ?_, R.ent, fun a u e => ?_, fun q hq => (tabs_new (R.tabs q hq) h).sub (Sub.new gp)⟩
  · exact (R.cell i c a e1 e2).mono (List.prefix_refl _) (Sub.new gp) (upd_ne (ne i a e2))
  · rw [upd_ne (ne i a e2)]; exact R.sep i c a e1 e2
  · by_cases z : a = p
    · subst z; rw [upd_same] at e ⊢; exact e
    · rw [upd_ne z] at e ⊢; exact R.sub a u e
  · have q2 := R.old a u e q
    rw [upd_ne (ne_of_none q2 h)]; exact q2
  · by_cases z : a = p
    · subst z; exact .inr (.inl (R.fresh0 h))
    · rw [upd_ne z] at e; exact R.grow a u e
  · by_cases z : a = p
    · subst z; rw [upd_same] at e; cases e; exact nt
    · rw [upd_ne z] at e; exact R.gnt a u e
theorem CA.po {K : PySem.W.Frag} {cl : Cls} {ρ : List Addr} {G H : Hp} {a : Addr} : ∀ {c : Cell}, CA K cl ρ G H a c → c ≠ .dead → ∃ u, H a = some u ∧ PlO u
  | .lst l, ⟨vs, h, _⟩, _ => ⟨_, h, po_of trivial⟩
  | .dk ks l, ⟨vs, h, _⟩, _ => ⟨_, h, po_of trivial⟩
  | .ins c l, ⟨C, dx, ns, vs, _, h, _⟩, _ => ⟨_, h, po_of trivial⟩
  | .dead, _, n => absurd rfl n
  | .dn ks l, ⟨nks, as, vs, _, h, _⟩, _ => ⟨_, h, ⟨fun _ z => (nomatch z), trivial⟩⟩
theorem Rel.tblF (R : Rel K cl E0 ρ G st H) {a : Addr} {ps : Array Value} (h : H a = some (.tbl ps)) : (∀ i : Nat, ρ[i]? ≠ some a) ∧ E0.H0 a = none := by
  have h1 : ∀ i : Nat, ρ[i]? ≠ some a := fun i z => by
    have hi : i < st.length := by rw [← R.len]; exact (List.getElem?_eq_some_iff.mp z).1
    by_cases hcd : st[i] = .dead
    · obtain ⟨o2, z2⟩ := R.cell i _ a (by rw [List.getElem?_eq_getElem hi, hcd]) z
      have z3 := R.sub _ _ z2
      rw [h] at z3
      exact R.gnt a o2 z2 ps (Option.some.inj z3).symm
    · obtain ⟨u2, z2, po⟩ := (R.cell i _ a (List.getElem?_eq_getElem hi) z).po hcd
      rw [h] at z2
      exact po.1 ps (Option.some.inj z2).symm
  refine ⟨h1, ?_⟩
  cases e : E0.H0 a with
  | none => rfl
  | some u =>
    have z1 := R.old a u e fun i _ => h1 i
    rw [h] at z1
    exact absurd (Option.some.inj z1).symm (R.ent a u e ps)
end
def RX (K : PySem.W.Frag) (cl : Cls) (G : Hp) (H : Hp) (x : Exn) (cls : Value) (d : Option Addr) : Prop :=
  ∃ C ns dd vs, cl[x.c]? = some (C, ns) ∧ cls = .ref C ∧ d = some dd ∧ H dd = some (.xd (ns.zip vs)) ∧ ns.length = vs.length ∧ RPs K cl G x.l vs
structure Bs where
  K : PySem.W.Frag
  cl : Cls
  E0 : En
abbrev Bs.Rel (B : Bs) (ρ : List Addr) (G : Hp) (st : List Cell) (H : Hp) : Prop := Y.Rel B.K B.cl B.E0 ρ G st H
abbrev Bs.RW (B : Bs) (ρ : List Addr) (G : Hp) : W → V → Prop := Y.RW B.K B.cl ρ G
abbrev Bs.RWs (B : Bs) (ρ : List Addr) (G : Hp) : List W → List V → Prop := Y.RWs B.K B.cl ρ G
abbrev Bs.RS (B : Bs) (ρ : List Addr) (G : Hp) : Sg → L2.St → Prop := Y.RS B.K B.cl ρ G
abbrev ZX := Value → Option Addr → Hp → Prop
def Aft (B : Bs) {α β : Type} (V : List Addr → Hp → α → β → Prop) (ρ : List Addr) (G : Hp) (R : Res α) (Q : β → Hp → Prop) (Z : ZX) : Prop := match R with
  | .ok a st => ∀ ρ' G' H' b, ρ <+: ρ' → Sub G G' → B.Rel ρ' G' st H' → V ρ' G' a b → Q b H'
  | .exc x st => ∀ ρ' G' H' cls d, ρ <+: ρ' → Sub G G' → B.Rel ρ' G' st H' → RX B.K B.cl G' H' x cls d → Z cls d H'
  | .no => False
section
variable {B : Bs} {α β γ δ : Type} {U : List Addr → Hp → α → β → Prop} {U2 : List Addr → Hp → γ → δ → Prop} {ρ ρ' : List Addr} {G G' : Hp} {Z : ZX}
theorem Aft.mono {R : Res α} {Q : β → Hp → Prop} (p : ρ <+: ρ') (s : Sub G G') (h : Aft B U ρ G R Q Z) : Aft B U ρ' G' R Q Z := by
  cases R with
  | ok a st => exact fun ρ2 G2 H2 b p2 s2 r u => h ρ2 G2 H2 b (p.trans p2) (s.trans s2) r u
  | exc x st => exact fun ρ2 G2 H2 c d p2 s2 r u => h ρ2 G2 H2 c d (p.trans p2) (s.trans s2) r u
  | no => exact h
theorem Aft.seq {R : Res α} {k : α → List Cell → Res γ} {Q : δ → Hp → Prop} {Q' : β → Hp → Prop} (h : Aft B U2 ρ G (R.bind k) Q Z)
    (g : ∀ a st ρ' G' H' b, R = .ok a st → ρ <+: ρ' → Sub G G' → B.Rel ρ' G' st H' → U ρ' G' a b → Aft B U2 ρ' G' (k a st) Q Z → Q' b H') : Aft B U ρ G R Q' Z := by
  cases R with
  | ok a st => exact fun ρ2 G2 H2 b p s r u => g a st ρ2 G2 H2 b rfl p s r u (Aft.mono p s h)
  | exc x st => exact h
  | no => exact h
end
section
variable {K : PySem.W.Frag} {cl : Cls} {E0 : En} {ρ ρ' : List Addr} {G G' : Hp} {st : List Cell} {H H' : Hp}
def En.hold (E0 : En) (G : Hp) (p : Addr) (o : HO) : En := ⟨upd E0.H0 p o, E0.n0, G⟩
theorem Rel.apart (R : Rel K cl E0 ρ G st H) {p : Addr} (h : H p = none) : ∀ (i : Nat), ρ[i]? ≠ some p := fun i e => by
  obtain ⟨u, q⟩ := R.there e
  rw [h] at q; cases q
theorem Rel.hold (R : Rel K cl E0 ρ G st H) {p : Addr} {o : HO} (h : H p = none) (nt : NT o := by intro _ z; cases z) : Rel K cl (E0.hold G p o) ρ G st (upd H p o) := by
  have gp := R.gnone h
  have ne : ∀ (i : Nat) a, ρ[i]? = some a → a ≠ p := fun i a e z => R.apart h i (by rw [e, z])
  refine ⟨R.len, R.nd, fun i c a e1 e2 => (R.cell i c a e1 e2).mono (List.prefix_refl _) (Sub.refl _) (upd_ne (ne i a e2)), R.sep, fun a u e => ?_, fun a u e q => ?_, fun i a hi e => ?_, R.n0, fun a u e => .inl e, fun a u e => ?_, R.gnt, fun q hq => tabs_new (R.tabs q hq) h⟩
  · rw [upd_ne (fun z => by rw [z, gp] at e; cases e)]; exact R.sub a u e
  · have e : upd E0.H0 p o a = some u := e
    by_cases z : a = p
    · subst z; rw [upd_same] at e ⊢; exact e
    · rw [upd_ne z] at e ⊢; exact R.old a u e q
  · show upd E0.H0 p o a = none
    rw [upd_ne (ne i a e)]; exact R.new i a hi e
  · have e : upd E0.H0 p o a = some u := e
    by_cases z : a = p
    · subst z; rw [upd_same] at e; cases e; exact nt
    · rw [upd_ne z] at e; exact R.ent a u e
theorem Rel.held {p : Addr} {o : HO} {G1 : Hp} (R : Rel K cl (E0.hold G1 p o) ρ G st H) (hn : ∀ i : Nat, i < E0.n0 → ρ[i]? ≠ some p) (g1 : G1 p = none) : H p = some o ∧ G p = none ∧ ∀ i : Nat, ρ[i]? ≠ some p := by
  have a1 : ∀ i : Nat, ρ[i]? ≠ some p := fun i e => by
    by_cases hi : i < E0.n0
    · exact hn i hi e
    · have q : upd E0.H0 p o p = none := R.new i p (by show E0.n0 ≤ i; omega) e
      rw [upd_same] at q; cases q
  refine ⟨R.old p o (show upd E0.H0 p o p = some o from upd_same) hn, ?_, a1⟩
  cases e : G p with
  | none => rfl
  | some u =>
    rcases R.grow p u e with q | q | ⟨i, _, q⟩
    · have q : G1 p = some u := q
      rw [g1] at q; cases q
    · have q : upd E0.H0 p o p = none := q
      rw [upd_same] at q; cases q
    · exact absurd q (a1 i)
theorem Rel.rehold {p : Addr} {o o' : HO} {G1 : Hp} (R : Rel K cl (E0.hold G1 p o) ρ G st H) (po : PlO o) (hn : ∀ i : Nat, i < E0.n0 → ρ[i]? ≠ some p) (g1 : G1 p = none) (nt : NT o' := by intro _ z; cases z) : Rel K cl (E0.hold G p o') ρ G st (upd H p o') := by
  obtain ⟨h1, h2, h3⟩ := R.held hn g1
  have ne : ∀ (i : Nat) a, ρ[i]? = some a → a ≠ p := fun i a e z => h3 i (by rw [e, z])
  refine ⟨R.len, R.nd, fun i c a e1 e2 => (R.cell i c a e1 e2).mono (List.prefix_refl _) (Sub.refl _) (upd_ne (ne i a e2)), R.sep, fun a u e => ?_, fun a u e q => ?_, fun i a hi e => ?_, R.n0, fun a u e => .inl e, fun a u e => ?_, R.gnt, fun q hq => tabs_upd (R.tabs q hq) h1 po⟩
  · rw [upd_ne (fun z => by rw [z, h2] at e; cases e)]; exact R.sub a u e
  · have e : upd E0.H0 p o' a = some u := e
    by_cases z : a = p
    · subst z; rw [upd_same] at e ⊢; exact e
    · rw [upd_ne z] at e ⊢; exact R.old a u (show upd E0.H0 p o a = some u by rw [upd_ne z]; exact e) q
  · show upd E0.H0 p o' a = none
    rw [upd_ne (ne i a e)]
    have q : upd E0.H0 p o a = none := R.new i a hi e
    rw [upd_ne (ne i a e)] at q; exact q
  · have e : upd E0.H0 p o' a = some u := e
    by_cases z : a = p
    · subst z; rw [upd_same] at e; cases e; exact nt
    · rw [upd_ne z] at e; exact R.ent a u (show upd E0.H0 p o a = some u by rw [upd_ne z]; exact e)
theorem Rel.unhold {p : Addr} {o : HO} {G1 : Hp} {ρ0 : List Addr} (R : Rel K cl (E0.hold G1 p o) ρ G st H) (h0 : E0.H0 p = none) (gr : ∀ a u, G1 a = some u → E0.G0 a = some u ∨ E0.H0 a = none ∨ ∃ i : Nat, i < E0.n0 ∧ ρ0[i]? = some a) (pr : ρ0 <+: ρ) (l0 : E0.n0 ≤ ρ0.length) : Rel K cl E0 ρ G st H := by
  refine ⟨R.len, R.nd, R.cell, R.sep, R.sub, fun a u e q => R.old a u (show upd E0.H0 p o a = some u by rw [upd_ne (ne_of_none e h0)]; exact e) q, fun i a hi e => ?_, R.n0, fun a u e => ?_, fun a u e => R.ent a u (show upd E0.H0 p o a = some u by rw [upd_ne (ne_of_none e h0)]; exact e), R.gnt, R.tabs⟩
  · have q : upd E0.H0 p o a = none := R.new i a hi e
    by_cases z : a = p
    · subst z; exact h0
    · rw [upd_ne z] at q; exact q
  · rcases R.grow a u e with q | q | ⟨i, hi, q⟩
    · rcases gr a u q with q | q | ⟨i, hi, q⟩
      · exact .inl q
      · exact .inr (.inl q)
      · obtain ⟨t, rfl⟩ := pr
        exact .inr (.inr ⟨i, hi, by rw [List.getElem?_append_left (Nat.lt_of_lt_of_le hi l0)]; exact q⟩)
    · have q : upd E0.H0 p o a = none := q
      by_cases z : a = p
      · subst z; exact .inr (.inl h0)
      · rw [upd_ne z] at q; exact .inr (.inl q)
    · exact .inr (.inr ⟨i, hi, q⟩)
theorem Rel.adopt (R : Rel K cl E0 ρ G st H) {p : Addr} {o : HO} (h : H p = some o) (gp : G p = none) (hp : ∀ i : Nat, ρ[i]? ≠ some p) (h0 : E0.H0 p = none) (nt : NT o := by intro _ z; cases z) : Rel K cl E0 ρ (upd G p o) st H := by
  refine ⟨R.len, R.nd, fun i c a e1 e2 => (R.cell i c a e1 e2).mono (List.prefix_refl _) (Sub.new gp) rfl, fun i c a e1 e2 => ?_, fun a u e => ?_, R.old, R.new, R.n0, fun a u e => ?_, R.ent, fun a u e => ?_, fun q hq => (R.tabs q hq).sub (Sub.new gp)⟩
  · rw [upd_ne (fun z => hp i (by rw [e2, z]))]; exact R.sep i c a e1 e2
  · by_cases z : a = p
    · subst z; rw [upd_same] at e; cases e; exact h
    · rw [upd_ne z] at e; exact R.sub a u e
  · by_cases z : a = p
    · subst z; exact .inr (.inl h0)
    · rw [upd_ne z] at e; exact R.grow a u e
  · by_cases z : a = p
    · subst z; rw [upd_same] at e; cases e; exact nt
    · rw [upd_ne z] at e; exact R.gnt a u e
theorem Rel.adoptC (R : Rel K cl E0 ρ G st H) {p : Addr} {c : Cell} (hc : c ≠ .dead) (gp : G p = none) (hp : ∀ i : Nat, ρ[i]? ≠ some p) (h0 : E0.H0 p = none) (x : CA K cl (ρ ++ [p]) G H p c) : Rel K cl E0 (ρ ++ [p]) G (st ++ [c]) H := by
  have pn : p ∉ ρ := fun m => by
    obtain ⟨i, hi⟩ := List.getElem?_of_mem m
    exact hp i hi
  have cut : ∀ (i : Nat) (d : Cell) a, (st ++ [c])[i]? = some d → (ρ ++ [p])[i]? = some a → (st[i]? = some d ∧ ρ[i]? = some a) ∨ (d = c ∧ a = p) := fun i d a e1 e2 => by
    by_cases hi : i < st.length
    · rw [List.getElem?_append_left hi] at e1
      rw [List.getElem?_append_left (by rw [R.len]; exact hi)] at e2
      exact .inl ⟨e1, e2⟩
    · have z : i = st.length := by
        have := (List.getElem?_eq_some_iff.mp e1).1
        rw [List.length_append] at this
        simp at this
        omega
      subst z
      rw [List.getElem?_append_right (Nat.le_refl _)] at e1
      rw [← R.len, List.getElem?_append_right (Nat.le_refl _)] at e2
      simp at e1 e2
      exact .inr ⟨e1.symm, e2.symm⟩
  refine ⟨by simp [R.len], ?_, fun i d a e1 e2 => ?_, fun i d a e1 e2 => ?_, R.sub, fun a u e q => ?_, fun i a hi e => ?_, by rw [List.length_append]; exact Nat.le_trans R.n0 (Nat.le_add_right _ _), fun a u e => ?_, R.ent, R.gnt, R.tabs⟩
  · exact List.nodup_append.mpr ⟨R.nd, by simp, fun a ha b hb => by simp at hb; subst hb; exact fun z => pn (z ▸ ha)⟩
  · rcases cut i d a e1 e2 with ⟨h1, h2⟩ | ⟨rfl, rfl⟩
    · exact (R.cell i d a h1 h2).mono (List.prefix_append _ _) (Sub.refl _) rfl
    · exact x
  · rcases cut i d a e1 e2 with ⟨h1, h2⟩ | ⟨rfl, rfl⟩
    · exact R.sep i d a h1 h2
    · exact .inr gp
  · exact R.old a u e fun i hi z => q i hi (by
      have hl : i < ρ.length := Nat.lt_of_lt_of_le hi R.n0
      rw [List.getElem?_append_left hl]; exact z)
  · by_cases hl : i < ρ.length
    · rw [List.getElem?_append_left hl] at e; exact R.new i a hi e
    · rw [List.getElem?_append_right (by omega)] at e
      have : a = p := by
        have hz := (List.getElem?_eq_some_iff.mp e).1
        simp at hz
        rw [hz] at e; simp at e; exact e.symm
      subst this; exact h0
  · rcases R.grow a u e with q | q | ⟨i, hi, q⟩
    · exact .inl q
    · exact .inr (.inl q)
    · exact .inr (.inr ⟨i, hi, by rw [List.getElem?_append_left (Nat.lt_of_lt_of_le hi R.n0)]; exact q⟩)
end
end Y
namespace Y
open PySem PySem.Spec PyProof.Rows L2
section
variable {X : Cx}
def T (X : Cx) (e : Expr) : TE := fun σ H Q => ∀ (pins : List (Addr × Obj)) (s : Shared), Inv X pins σ H s → wpAny (model X.prog X.w) X.A (eval e X.env) (EP X pins σ Q) X.xe s
def TT' (X : Cx) (e : Expr) : TT := fun σ H Q => ∀ (pins : List (Addr × Obj)) (s : Shared), Inv X pins σ H s → wpAny (model X.prog X.w) X.A (isTrue e X.env (eval e X.env)) (TP X pins σ Q) X.xe s
def TW' (X : Cx) (e : Expr) : TT := fun σ H Q => ∀ (whole : Sem Value) (pins : List (Addr × Obj)) (s : Shared), Inv X pins σ H s → wpAny (model X.prog X.w) X.A (isTrue e X.env whole) (TP X pins σ Q) X.xe s
def TA' (X : Cx) (es : List Expr) : TA := fun σ H Q => ∀ (pos : Pos) (pins : List (Addr × Obj)) (s : Shared), Inv X pins σ H s → wpAny (model X.prog X.w) X.A (spliced (backTo pos (starEach es X.env))) (AP X pins σ Q) X.xe s
theorem T.pe {e : Expr} : PE X e (T X e) := ⟨fun pins s σ H Q I h => h pins s I⟩
theorem TT'.pt {e : Expr} : PT X e (TT' X e) := ⟨fun pins s σ H Q I h => h pins s I⟩
theorem TA'.pa {es : List Expr} : PA X es (TA' X es) := ⟨fun pos pins s σ H Q I h => h pos pins s I⟩
theorem T.of {e : Expr} {t : TE} {σ : L2.St} {H : Hp} {Q : VK} (h : PE X e t) (q : t σ H Q) : T X e σ H Q := fun pins s I => h.run pins s σ H Q I q
theorem TT'.of {e : Expr} {t : TT} {σ : L2.St} {H : Hp} {Q : Bool → Hp → Prop} (h : PT X e t) (q : t σ H Q) : TT' X e σ H Q := fun pins s I => h.run pins s σ H Q I q
theorem TW'.of {e : Expr} {t : TT} {σ : L2.St} {H : Hp} {Q : Bool → Hp → Prop} (h : PW X e t) (q : t σ H Q) : TW' X e σ H Q := fun wh pins s I => h.run wh pins s σ H Q I q
theorem TA'.of {es : List Expr} {t : TA} {σ : L2.St} {H : Hp} {Q : List V → Hp → Prop} (h : PA X es t) (q : t σ H Q) : TA' X es σ H Q := fun pos pins s I => h.run pos pins s σ H Q I q
end
abbrev TM := Sg → List Cell → Res Bool
abbrev AM := Sg → List Cell → Res (List W)
abbrev bs (K : PySem.W.Frag) (cl : Cls) (E0 : En) : Bs := ⟨K, cl, E0⟩
abbrev eqB : List Addr → Hp → Bool → Bool → Prop := fun _ _ a b => a = b
structure SE (K : PySem.W.Frag) (cl : Cls) (X : Cx) (Wx : WX) (m : EM) (e : Expr) : Prop where
  run : ∀ E0 ρ G σ st τ H Q, (bs K cl E0).Rel ρ G st H → RS K cl ρ G σ τ → Aft (bs K cl E0) (bs K cl E0).RW ρ G (m σ st) Q (fun c d H' => Wx c d τ H') → T X e τ H Q
structure ST (K : PySem.W.Frag) (cl : Cls) (X : Cx) (Wx : WX) (m : TM) (e : Expr) : Prop where
  run : ∀ E0 ρ G σ st τ H Q, (bs K cl E0).Rel ρ G st H → RS K cl ρ G σ τ → Aft (bs K cl E0) eqB ρ G (m σ st) Q (fun c d H' => Wx c d τ H') → TT' X e τ H Q
structure SW (K : PySem.W.Frag) (cl : Cls) (X : Cx) (Wx : WX) (m : TM) (e : Expr) : Prop where
  run : ∀ E0 ρ G σ st τ H Q, (bs K cl E0).Rel ρ G st H → RS K cl ρ G σ τ → Aft (bs K cl E0) eqB ρ G (m σ st) Q (fun c d H' => Wx c d τ H') → TW' X e τ H Q
structure SA (K : PySem.W.Frag) (cl : Cls) (X : Cx) (Wx : WX) (m : AM) (es : List Expr) : Prop where
  run : ∀ E0 ρ G σ st τ H Q, (bs K cl E0).Rel ρ G st H → RS K cl ρ G σ τ → Aft (bs K cl E0) (bs K cl E0).RWs ρ G (m σ st) Q (fun c d H' => Wx c d τ H') → TA' X es τ H Q
structure GX (K : PySem.W.Frag) (X : Cx) : Prop where
  hK : X.K = K
  hc : X.calm = true
  hN : X.N.Nodup
  hu : X.A.units + 65 < cLine
  hh : X.A.handled = none
section
variable {K : PySem.W.Frag} {cl : Cls} {X : Cx} {Wx : WX} {E0 : En} {ρ ρ' : List Addr} {G G' : Hp} {σ : Sg} {τ : L2.St} {st : List Cell} {H : Hp}
theorem RS.mono (p : ρ <+: ρ') (s : Sub G G') (h : RS K cl ρ G σ τ) : RS K cl ρ' G' σ τ := ⟨h.1, fun i w e => by
  obtain ⟨v, e1, r⟩ := h.2 i w e
  exact ⟨v, e1, r.mono p s⟩⟩
theorem Aft.here {B : Bs} {α β : Type} {U : List Addr → Hp → α → β → Prop} {a : α} {b : β} {Q : β → Hp → Prop} {Z : ZX} (h : Aft B U ρ G (.ok a st) Q Z) (R : B.Rel ρ G st H) (u : U ρ G a b) : Q b H :=
  h ρ G H b (List.prefix_refl _) (Sub.refl _) R u
def mVar (i : Nat) : EM := fun σ st => match σ[i]? with
  | some (some w) => .ok w st
  | _ => .no
theorem se_var {i : Nat} {x : Str} {pos : Pos} (hN : X.N[i]? = some x) (hv : Vis X.env.scope x) (hd : (x == ("__debug__" : Str)) = false := by decide +kernel) (hcd : (x == ("__classdict__" : Str)) = false := by decide +kernel) : SE K cl X Wx (mVar i) (.Name x pos) := by
  refine ⟨fun E0 ρ G σ st τ H Q R S h => T.of (pe_var hN hv hd hcd) ?_⟩
  unfold mVar at h
  split at h
  · rename_i w e
    obtain ⟨v, e1, r⟩ := S.2 i w e
    exact ⟨v, e1, h.here R r⟩
  · exact h.elim
end
end Y
namespace Y
open PySem PySem.Spec PyProof.Rows L2
section
variable {K : PySem.W.Frag} {cl : Cls} {X : Cx} {Wx : WX} {E0 : En} {ρ ρ' : List Addr} {G G' : Hp} {σ : Sg} {τ : L2.St} {st : List Cell} {H : Hp}
theorem RPs.empty {l : List P} {vs : List V} (r : RPs K cl G l vs) : l.isEmpty = vs.isEmpty := by cases r <;> rfl
theorem RWs.empty {l : List W} {vs : List V} (r : RWs K cl ρ G l vs) : l.isEmpty = vs.isEmpty := by cases r <;> rfl
theorem T.bind {e : Expr} {Q Q' : VK} (h : T X e τ H Q) (k : ∀ v H', Q v H' → Q' v H') : T X e τ H Q' := fun pins s I => thn (h pins s I) fun u s1 ⟨v, H1, I1, r, q⟩ => ⟨v, H1, I1, r, k v H1 q⟩
end
end Y
namespace Y
open PySem PySem.Spec PyProof.Rows L2
inductive SR where
  | ok (f : Fl) (σ : Sg) (st : List Cell) | exc (x : Exn) (σ : Sg) (st : List Cell) | no
abbrev SMm := Sg → List Cell → SR
def SR.then (r : SR) (k : Sg → List Cell → SR) : SR := match r with
  | .ok .nx σ st => k σ st
  | r => r
def Res.to {α : Type} (r : Res α) (σ : Sg) (k : α → List Cell → SR) : SR := match r with
  | .ok a st => k a st
  | .exc x st => .exc x σ st
  | .no => .no
def AftS (B : Bs) (ρ : List Addr) (G : Hp) (R : SR) (D : Ends) (Wx : WX) : Prop := match R with
  | .ok f σ st => ∀ ρ' G' H' τ', ρ <+: ρ' → Sub G G' → B.Rel ρ' G' st H' → B.RS ρ' G' σ τ' → (match f with
    | .nx => D.nx τ' H'
    | .bk => D.bk τ' H'
    | .ct => D.ct τ' H'
    | .rt w => ∀ v, B.RW ρ' G' w v → D.rt v H')
  | .exc x σ st => ∀ ρ' G' H' τ' cls d, ρ <+: ρ' → Sub G G' → B.Rel ρ' G' st H' → B.RS ρ' G' σ τ' → RX B.K B.cl G' H' x cls d → Wx cls d τ' H'
  | .no => False
def TS' (X : Cx) (e : Stmt) : TS := fun D σ H => ∀ (pins : List (Addr × Obj)) (s : Shared), Inv X pins σ H s → wpAny (model X.prog X.w) X.A (exec e X.env) (SP X pins D) X.xe s
def TSs' (X : Cx) (e : List Stmt) : TS := fun D σ H => ∀ (pins : List (Addr × Obj)) (s : Shared), Inv X pins σ H s → wpAny (model X.prog X.w) X.A (execs e X.env) (SP X pins D) X.xe s
theorem TS'.ps {X : Cx} {e : Stmt} : PS X e (TS' X e) := ⟨fun pins s σ H Q I h => h pins s I⟩
theorem TSs'.pss {X : Cx} {e : List Stmt} : PSs X e (TSs' X e) := ⟨fun pins s σ H Q I h => h pins s I⟩
theorem TS'.of {X : Cx} {e : Stmt} {t : TS} {σ : L2.St} {H : Hp} {D : Ends} (h : PS X e t) (q : t D σ H) : TS' X e D σ H := fun pins s I => h.run pins s σ H D I q
theorem TSs'.of {X : Cx} {e : List Stmt} {t : TS} {σ : L2.St} {H : Hp} {D : Ends} (h : PSs X e t) (q : t D σ H) : TSs' X e D σ H := fun pins s I => h.run pins s σ H D I q
structure SS (K : PySem.W.Frag) (cl : Cls) (X : Cx) (Wx : WX) (m : SMm) (e : Stmt) : Prop where
  run : ∀ E0 ρ G σ st τ H D, (bs K cl E0).Rel ρ G st H → RS K cl ρ G σ τ → AftS (bs K cl E0) ρ G (m σ st) D Wx → TS' X e D τ H
structure SSs (K : PySem.W.Frag) (cl : Cls) (X : Cx) (Wx : WX) (m : SMm) (e : List Stmt) : Prop where
  run : ∀ E0 ρ G σ st τ H D, (bs K cl E0).Rel ρ G st H → RS K cl ρ G σ τ → AftS (bs K cl E0) ρ G (m σ st) D Wx → TSs' X e D τ H
section
variable {K : PySem.W.Frag} {cl : Cls} {X : Cx} {Wx : WX} {E0 : En} {ρ ρ' : List Addr} {G G' : Hp} {σ : Sg} {τ : L2.St} {st : List Cell} {H : Hp} {D : Ends}
theorem AftS.mono {B : Bs} {R : SR} (p : ρ <+: ρ') (s : Sub G G') (h : AftS B ρ G R D Wx) : AftS B ρ' G' R D Wx := by
  cases R with
  | ok f σ st => exact fun ρ2 G2 H2 b p2 s2 r u => h ρ2 G2 H2 b (p.trans p2) (s.trans s2) r u
  | exc x σ st => exact fun ρ2 G2 H2 τ c d p2 s2 r u => h ρ2 G2 H2 τ c d (p.trans p2) (s.trans s2) r u
  | no => exact h
theorem AftS.nx {B : Bs} (h : AftS B ρ G (.ok .nx σ st) D Wx) (R : B.Rel ρ G st H) (S : B.RS ρ G σ τ) : D.nx τ H := h ρ G H τ (List.prefix_refl _) (Sub.refl _) R S
theorem AftS.rt {B : Bs} {w : W} {v : V} (h : AftS B ρ G (.ok (.rt w) σ st) D Wx) (R : B.Rel ρ G st H) (S : B.RS ρ G σ τ) (u : B.RW ρ G w v) : D.rt v H := h ρ G H τ (List.prefix_refl _) (Sub.refl _) R S v u
theorem AftS.seq {B : Bs} {α β : Type} {U : List Addr → Hp → α → β → Prop} {R : Res α} {k : α → List Cell → SR} {Q' : β → Hp → Prop} (S : B.RS ρ G σ τ) (h : AftS B ρ G (R.to σ k) D Wx)
    (g : ∀ a st ρ' G' H' b, R = .ok a st → ρ <+: ρ' → Sub G G' → B.Rel ρ' G' st H' → U ρ' G' a b → AftS B ρ' G' (k a st) D Wx → Q' b H') : Aft B U ρ G R Q' (fun c d H' => Wx c d τ H') := by
  cases R with
  | ok a st => exact fun ρ2 G2 H2 b p s r u => g a st ρ2 G2 H2 b rfl p s r u (AftS.mono p s h)
  | exc x st => exact fun ρ2 G2 H2 c d p s r u => h ρ2 G2 H2 τ c d p s r (S.mono p s) u
  | no => exact h
theorem AftS.thn {B : Bs} {R : SR} {k : Sg → List Cell → SR} {D' : Ends} (h : AftS B ρ G (R.then k) D Wx)
    (g : ∀ σ st ρ' G' H' τ', R = .ok .nx σ st → ρ <+: ρ' → Sub G G' → B.Rel ρ' G' st H' → B.RS ρ' G' σ τ' → AftS B ρ' G' (k σ st) D Wx → D'.nx τ' H') (hr : D'.rt = D.rt) (hb : D'.bk = D.bk) (hc : D'.ct = D.ct) : AftS B ρ G R D' Wx := by
  cases R with
  | ok f σ st =>
    cases f with
    | nx => exact fun ρ2 G2 H2 τ2 p s r u => g σ st ρ2 G2 H2 τ2 rfl p s r u (AftS.mono p s h)
    | rt w => intro ρ2 G2 H2 τ2 p s r u v q; rw [hr]; exact h ρ2 G2 H2 τ2 p s r u v q
    | bk => intro ρ2 G2 H2 τ2 p s r u; show D'.bk τ2 H2; rw [hb]; exact h ρ2 G2 H2 τ2 p s r u
    | ct => intro ρ2 G2 H2 τ2 p s r u; show D'.ct τ2 H2; rw [hc]; exact h ρ2 G2 H2 τ2 p s r u
  | exc x σ st => exact h
  | no => exact h.elim
theorem RS.set (S : RS K cl ρ G σ τ) {w : W} {v : V} (r : RW K cl ρ G w v) (i : Nat) : RS K cl ρ G (σ.set i (some w)) (τ.set i (some v)) := by
  refine ⟨by rw [List.length_set, List.length_set]; exact S.1, fun j z e => ?_⟩
  by_cases hj : i = j
  · subst hj
    have hl : i < σ.length := by
      have := (List.getElem?_eq_some_iff.mp e).1
      rwa [List.length_set] at this
    rw [List.getElem?_set_self hl] at e
    cases e
    exact ⟨v, List.getElem?_set_self (by rw [← S.1]; exact hl), r⟩
  · rw [List.getElem?_set_ne hj] at e
    obtain ⟨u, e1, r1⟩ := S.2 j z e
    exact ⟨u, by rw [List.getElem?_set_ne hj]; exact e1, r1⟩
def sNx : SMm := fun σ st => .ok .nx σ st
inductive Tg where
  | nm (i : Nat) | tp (l : List Tg)
mutual
def Tg.put : Tg → W → Sg → Option Sg
  | .nm i, w, σ => some (σ.set i (some w))
  | .tp ts, .p (.tup l), σ => Tg.puts ts l σ
  | .tp _, _, _ => none
def Tg.puts : List Tg → List P → Sg → Option Sg
  | [], [], σ => some σ
  | t :: ts, x :: l, σ => match Tg.put t (.p x) σ with
    | some σ' => Tg.puts ts l σ'
    | none => none
  | _, _, _ => none
end
def TGc (X : Cx) (e : Expr) : TG := fun v σ H Q => ∀ (pins : List (Addr × Obj)) (s : Shared) (u : Value), Inv X pins σ H s → RelV v u →
  wpAny (model X.prog X.w) X.A (PySem.assign e X.env u) (fun _ s' => ∃ σ' H', Inv X pins σ' H' s' ∧ Q σ' H') X.xe s
def TGsc (X : Cx) (es : List Expr) : TGs := fun vs σ H Q => ∀ (pins : List (Addr × Obj)) (s : Shared) (us : List Value), Inv X pins σ H s → Vals vs us →
  wpAny (model X.prog X.w) X.A (assignInOrder ((assignEach es X.env).map (·.2)) us) (fun _ s' => ∃ σ' H', Inv X pins σ' H' s' ∧ Q σ' H') X.xe s
theorem TGc.pg {e : Expr} : PG X e (TGc X e) := ⟨fun pins s σ H v u Q I r h => h pins s u I r⟩
theorem TGc.of {e : Expr} {t : TG} {v : V} {H : Hp} {Q : L2.St → Hp → Prop} (h : PG X e t) (q : t v τ H Q) : TGc X e v τ H Q := fun pins s u I r => h.run pins s τ H v u Q I r q
theorem TGsc.of {es : List Expr} {t : TGs} {vs : List V} {H : Hp} {Q : L2.St → Hp → Prop} (h : PGs X es t) (q : t vs τ H Q) : TGsc X es vs τ H Q := fun pins s us I r => h.run pins s τ H vs us Q I r q
mutual
def Tg.slots : Tg → List Nat
  | .nm i => [i]
  | .tp ts => Tg.slotss ts
def Tg.slotss : List Tg → List Nat
  | [] => []
  | t :: ts => Tg.slots t ++ Tg.slotss ts
end
structure SG (K : PySem.W.Frag) (cl : Cls) (X : Cx) (t : Tg) (e : Expr) : Prop where
  run : ∀ ρ G H w v σ σ' τ (Q : L2.St → Hp → Prop), Sub G H → RS K cl ρ G σ τ → RW K cl ρ G w v → t.put w σ = some σ' → (∀ τ', RS K cl ρ G σ' τ' → (∀ vs, (∀ i ∈ t.slots, i ∈ vs) → wipe τ' vs = wipe τ vs) → Q τ' H) → TGc X e v τ H Q
structure SGs (K : PySem.W.Frag) (cl : Cls) (X : Cx) (t : List Tg) (es : List Expr) : Prop where
  run : ∀ ρ G H l vs σ σ' τ (Q : L2.St → Hp → Prop), Sub G H → RS K cl ρ G σ τ → RPs K cl G l vs → Tg.puts t l σ = some σ' → (∀ τ', RS K cl ρ G σ' τ' → (∀ vs, (∀ i ∈ Tg.slotss t, i ∈ vs) → wipe τ' vs = wipe τ vs) → Q τ' H) → TGsc X es vs τ H Q
end
end Y
namespace Y
open PySem PySem.Spec PyProof.Rows L2
structure Src where
  get : List Cell → Nat → Option (Option W)
  n : Nat
abbrev IM := Sg → List Cell → Res Src
def WOk (K : PySem.W.Frag) (cl : Cls) (ρ : List Addr) (G : Hp) (J : It) (src : Src) : Prop :=
  ∀ E0 ρ' G' st H i, ρ <+: ρ' → Sub G G' → (bs K cl E0).Rel ρ' G' st H → match src.get st i with
    | none => True
    | some none => J.stop i H
    | some (some w) => J.go i H ∧ ∀ x H', J.yld i H x H' → ∃ G'', Sub G' G'' ∧ (bs K cl E0).Rel ρ' G'' st H' ∧ RW K cl ρ' G'' w x
def TIc (X : Cx) (tg e : Expr) : TI := fun σ H R => ∀ (pins : List (Addr × Obj)) (s : Shared), Inv X pins σ H s →
  wpAny (model X.prog X.w) X.A (eval e X.env) (fun v s1 => wpAny (model X.prog X.w) X.A (pyIter v) (PIE X pins σ tg R) X.xe s1) X.xe s
theorem TIc.of {X : Cx} {tg e : Expr} {wi : TI} {σ : L2.St} {H : Hp} {R : It → Hp → Prop} (h : PI X tg e wi) (q : wi σ H R) : TIc X tg e σ H R := fun pins s I => h.run pins s σ H R I q
structure SI (K : PySem.W.Frag) (cl : Cls) (X : Cx) (Wx : WX) (tg : Expr) (m : IM) (e : Expr) : Prop where
  run : ∀ E0 ρ G σ st τ H R, (bs K cl E0).Rel ρ G st H → RS K cl ρ G σ τ → Aft (bs K cl E0) (fun ρ G (a : Src) (J : It) => WOk K cl ρ G J a) ρ G (m σ st) R (fun c d H' => Wx c d τ H') → TIc X tg e τ H R
section
variable {K : PySem.W.Frag} {cl : Cls} {X : Cx} {Wx : WX} {E0 : En} {ρ ρ' : List Addr} {G G' : Hp} {σ : Sg} {τ : L2.St} {st : List Cell} {H : Hp} {D : Ends}
structure Hd (K : PySem.W.Frag) (cl : Cls) (E0 : En) (D : Addr) (ρ : List Addr) (G : Hp) (st : List Cell) (H : Hp) (acc : List W) (Gh : Hp) (vs : List V) : Prop where
  gD : Gh D = none
  gr : ∀ a u, Gh a = some u → E0.G0 a = some u ∨ E0.H0 a = none ∨ ∃ i : Nat, i < E0.n0 ∧ ρ[i]? = some a
  hn : ∀ i : Nat, i < E0.n0 → ρ[i]? ≠ some D
  l0 : E0.n0 ≤ ρ.length
  h0 : E0.H0 D = none
  rw : RWs K cl ρ G acc vs
  R : (bs K cl (E0.hold Gh D (.lst vs))).Rel ρ G st H
theorem Hd.start {Dd : Addr} (R : (bs K cl E0).Rel ρ G st H) (h : H Dd = none) : Hd K cl E0 Dd ρ G st (upd H Dd (.lst [])) [] G [] :=
  ⟨R.gnone h, R.grow, fun i _ => R.apart h i, R.n0, R.fresh0 h, .nil, R.hold h⟩
section
variable {Dd : Addr} {acc : List W} {Gh : Hp} {vs : List V} {st' : List Cell} {H' : Hp}
theorem Hd.held (h : Hd K cl E0 Dd ρ G st H acc Gh vs) : H Dd = some (.lst vs) ∧ G Dd = none ∧ ∀ i : Nat, ρ[i]? ≠ some Dd := Rel.held h.R h.hn h.gD
theorem Hd.next (h : Hd K cl E0 Dd ρ G st H acc Gh vs) (p : ρ <+: ρ') (s : Sub G G') (R : (bs K cl (E0.hold Gh Dd (.lst vs))).Rel ρ' G' st' H') : Hd K cl E0 Dd ρ' G' st' H' acc Gh vs := by
  have keep : ∀ i : Nat, i < E0.n0 → ρ'[i]? = ρ[i]? := fun i hi => by
    obtain ⟨t, rfl⟩ := p
    exact List.getElem?_append_left (Nat.lt_of_lt_of_le hi h.l0)
  refine ⟨h.gD, fun a u e => ?_, fun i hi => by rw [keep i hi]; exact h.hn i hi, Nat.le_trans h.l0 p.length_le, h.h0, h.rw.mono p s, R⟩
  rcases h.gr a u e with q | q | ⟨i, hi, q⟩
  · exact .inl q
  · exact .inr (.inl q)
  · exact .inr (.inr ⟨i, hi, by rw [keep i hi]; exact q⟩)
theorem Hd.back (h : Hd K cl E0 Dd ρ G st H acc Gh vs) : (bs K cl E0).Rel ρ G st H := Rel.unhold h.R h.h0 h.gr (List.prefix_refl _) h.l0
theorem Hd.push (h : Hd K cl E0 Dd ρ G st H acc Gh vs) {w : W} {y : V} (r : RW K cl ρ G w y) : Hd K cl E0 Dd ρ G st (upd H Dd (.lst (vs ++ [y]))) (acc ++ [w]) G (vs ++ [y]) :=
  ⟨h.held.2.1, h.back.grow, h.hn, h.l0, h.h0, h.rw.append (.cons r .nil), Rel.rehold h.R (po_of trivial) h.hn h.gD⟩
end
def Res.nox {α : Type} : Res α → Res α
  | .exc _ _ => .no
  | r => r
def wipeS (σ : Sg) : List Nat → Sg
  | [] => σ
  | v :: vs => (wipeS σ vs).set v none
theorem RS.wipe (S : RS K cl ρ G σ τ) : ∀ vs : List Nat, RS K cl ρ G (wipeS σ vs) (L2.wipe τ vs)
  | [] => S
  | v :: vs => by
    have ih := RS.wipe S vs
    unfold wipeS L2.wipe
    refine ⟨by rw [List.length_set, List.length_set]; exact ih.1, fun j w e => ?_⟩
    by_cases hj : v = j
    · subst hj
      by_cases hl : v < (wipeS σ vs).length
      · rw [List.getElem?_set_self hl] at e; cases e
      · rw [List.getElem?_eq_none (by rw [List.length_set]; omega)] at e; cases e
    · rw [List.getElem?_set_ne hj] at e ⊢
      exact ih.2 j w e
def TTs' (X : Cx) (ifs : List Expr) : TT := fun σ H Q => ∀ (pins : List (Addr × Obj)) (s : Shared), Inv X pins σ H s →
  wpAny (model X.prog X.w) X.A (forIn ifs true fun c r => if r = true then do let ok ← isTrue c X.env (eval c X.env); pure (ForInStep.yield ok) else pure (ForInStep.yield r)) (TP X pins σ Q) X.xe s
theorem TTs'.of {ifs : List Expr} {t : TT} {Q : Bool → Hp → Prop} (h : PTs X ifs t) (q : t τ H Q) : TTs' X ifs τ H Q := fun pins s I => h.run pins s τ H Q I q
structure STs (K : PySem.W.Frag) (cl : Cls) (X : Cx) (Wx : WX) (m : TM) (e : List Expr) : Prop where
  run : ∀ E0 ρ G σ st τ H Q, (bs K cl E0).Rel ρ G st H → RS K cl ρ G σ τ → Aft (bs K cl E0) eqB ρ G (m σ st) Q (fun c d H' => Wx c d τ H') → TTs' X e τ H Q
abbrev WF : WX := fun _ _ _ _ => False
end
end Y
namespace Y
open PySem PySem.Spec PyProof.Rows L2
mutual
def toD : P → Option PyData
  | .non => some .none
  | .bl b => some (.bool b)
  | .int i => some (.int i)
  | .str s => some (.str s)
  | .tup l => match toDs l with
    | some ds => some (.tuple ds)
    | none => none
  | .lst l => match toDs l with
    | some ds => some (.list ds)
    | none => none
  | .scr _ => none
  | .dk _ _ => none
  | .obj _ _ => none
  | .exn _ _ => none
  | .lam _ _ => none
  | .cls _ => none
  | .fd _ _ => none
  | .fn _ _ => none
def toDs : List P → Option (List PyData)
  | [] => some []
  | x :: l => match toD x, toDs l with
    | some d, some ds => some (d :: ds)
    | _, _ => none
end
section
variable {K : PySem.W.Frag} {cl : Cls} {X : Cx} {Wx : WX} {E0 : En} {ρ ρ' : List Addr} {G G' : Hp} {σ : Sg} {τ : L2.St} {st : List Cell} {H : Hp} {D : Ends}
mutual
theorem RP.dp (s : Sub G H) : ∀ {x : P} {v : V} {d : PyData}, RP K cl G x v → toD x = some d → Dp K H v d
  | _, _, _, .non, e => by rw [toD] at e; cases e; exact .non
  | _, _, _, .bl b, e => by rw [toD] at e; cases e; exact .bl b
  | _, _, _, .int i, e => by rw [toD] at e; cases e; exact .int i
  | _, _, _, .str z, e => by rw [toD] at e; cases e; exact .str z
  | _, _, _, .tup h r, e => by
    rw [toD] at e
    split at e
    · rename_i ds e2; cases e; exact .tup (s.sqT h) (RPs.dp s r e2)
    · cases e
  | _, _, _, .lst h r, e => by
    rw [toD] at e
    split at e
    · rename_i ds e2; cases e; exact .lst (.inl (.inl (s _ _ h))) (RPs.dp s r e2)
    · cases e
  | _, _, _, .scr h, e => by rw [toD] at e; cases e
  | _, _, _, .dk h z r, e => by rw [toD] at e; cases e
  | _, _, _, .obj c h z r, e => by rw [toD] at e; cases e
  | _, _, _, .exn c x h d z r, e => by rw [toD] at e; cases e
  | _, _, _, .lam _ _ _ _ _, e => by rw [toD] at e; cases e
  | _, _, _, .cls _, e => by rw [toD] at e; cases e
  | _, _, _, .fd _ _ _, e => by rw [toD] at e; cases e
  | _, _, _, .fn _ _ _ _ _ _ _, e => by rw [toD] at e; cases e
theorem RPs.dp (s : Sub G H) : ∀ {l : List P} {vs : List V} {ds : List PyData}, RPs K cl G l vs → toDs l = some ds → DpAll K H vs ds
  | _, _, _, .nil, e => by rw [toDs] at e; cases e; exact .nil
  | _, _, _, .cons h r, e => by
    rw [toDs] at e
    split at e
    · rename_i d ds e1 e2; cases e; exact .cons (RP.dp s h e1) (RPs.dp s r e2)
    · cases e
end
abbrev OM := Sg → List Cell → Res (Option Int)
def TO' (X : Cx) (e : Option Expr) : TO := fun σ H Q => ∀ (pins : List (Addr × Obj)) (s : Shared), Inv X pins σ H s →
  wpAny (model X.prog X.w) X.A (evalPart e X.env) (fun u s' => ∃ o H', Inv X pins σ H' s' ∧ IsPart u o ∧ Q o H') X.xe s
theorem TO'.po {e : Option Expr} : PO X e (TO' X e) := ⟨fun pins s σ H Q I h => h pins s I⟩
theorem TO'.of {e : Option Expr} {t : TO} {Q : Option Int → Hp → Prop} (h : PO X e t) (q : t τ H Q) : TO' X e τ H Q := fun pins s I => h.run pins s τ H Q I q
structure SO (K : PySem.W.Frag) (cl : Cls) (X : Cx) (Wx : WX) (m : OM) (e : Option Expr) : Prop where
  run : ∀ E0 ρ G σ st τ H Q, (bs K cl E0).Rel ρ G st H → RS K cl ρ G σ τ → Aft (bs K cl E0) (fun _ _ (a b : Option Int) => a = b) ρ G (m σ st) Q (fun c d H' => Wx c d τ H') → TO' X e τ H Q
def cutL {α : Type} (xs : List α) (lo hi : Option Int) : List α := (xs.drop (HT.sIx xs.length 0 lo)).take (HT.sIx xs.length xs.length hi - HT.sIx xs.length 0 lo)
theorem RPs.cut {l : List P} {vs : List V} (q : RPs K cl G l vs) (lo hi : Option Int) : RPs K cl G (cutL l lo hi) (cutV vs lo hi) := by
  unfold cutL cutV
  rw [q.length]
  exact (q.drop _).take _
end
end Y
namespace Y
open PySem PySem.Spec PyProof.Rows L2
section
variable {K : PySem.W.Frag} {cl : Cls} {X : Cx} {Wx : WX} {E0 : En} {ρ ρ' : List Addr} {G G' : Hp} {σ : Sg} {τ : L2.St} {st : List Cell} {H : Hp} {D : Ends}
inductive TrV : V → Bool → Prop where
  | bl (b : Bool) : TrV (.bl b) b
  | int (i : Int) : TrV (.int i) (i != 0)
end
end Y
namespace Y
open PySem PySem.Spec PyProof.Rows L2
def content : Cell → List W
  | .lst l => l
  | .dk _ l => l
  | .ins _ l => l
  | .dead => []
  | .dn _ l => l
def plainC (c : Cell) : Bool := match c with
  | .dead => false
  | c => (pures (content c)).isSome
def getCells (st : List Cell) : List Nat → Option (List Cell)
  | [] => some []
  | i :: is => match st[i]? with
    | some c => if plainC c = true then match getCells st is with
        | some cs => some (c :: cs)
        | none => none else none
    | none => none
def putCells : List Nat → List Cell → List Cell → List Cell
  | i :: is, c :: cs, st => (putCells is cs st).set i c
  | _, _, st => st
def spF (K : PySem.W.Frag) (cl : Cls) (F : FM) : Sp := fun vs H Q E => ∃ ρ0 G0 st0 ws, Rel K cl ⟨strip H, ρ0.length, G0⟩ ρ0 G0 st0 H ∧ RWs K cl ρ0 G0 ws vs ∧ Aft ⟨K, cl, ⟨strip H, ρ0.length, G0⟩⟩ (RW K cl) ρ0 G0 (F ws st0) Q E
section
variable {K : PySem.W.Frag} {cl : Cls} {X : Cx} {Wx : WX} {E0 : En} {ρ ρ' ρ2 : List Addr} {G G' : Hp} {σ : Sg} {τ : L2.St} {st st' : List Cell} {H H' Hm : Hp} {D : Ends}
theorem rws_plain {l : List W} {vs : List V} (h : (pures l).isSome = true) (r : RWs K cl ρ G l vs) : RWs K cl ρ2 G l vs := by
  cases e : pures l with
  | none => rw [e] at h; cases h
  | some m =>
    have q := r.pures e
    rw [pures_eq e]
    exact .of_pures q
theorem CA.plain {a : Addr} {c : Cell} (h : plainC c = true) (x : CA K cl ρ G H a c) : CA K cl ρ2 G H a c := by
  cases c with
  | lst l => obtain ⟨vs, h1, h2⟩ := x; exact ⟨vs, h1, rws_plain h h2⟩
  | dk ks l => obtain ⟨vs, h1, z, h2⟩ := x; exact ⟨vs, h1, z, rws_plain h h2⟩
  | ins c l => obtain ⟨C, dx, ns, vs, k, h1, z, h2⟩ := x; exact ⟨C, dx, ns, vs, k, h1, z, rws_plain h h2⟩
  | dead => cases h
  | dn ks l => obtain ⟨nks, as, vs, n, h1, z, q, h2⟩ := x; exact ⟨nks, as, vs, n, h1, z, q, rws_plain h h2⟩
theorem putCells_length : ∀ {refs : List Nat} {cs st : List Cell}, (putCells refs cs st).length = st.length
  | [], _, _ => by unfold putCells; rfl
  | _ :: _, [], _ => by unfold putCells; rfl
  | i :: is, c :: cs, st => by unfold putCells; rw [List.length_set]; exact putCells_length
theorem putCells_out : ∀ {refs : List Nat} {cs st : List Cell} {i : Nat}, i ∉ refs → (putCells refs cs st)[i]? = st[i]?
  | [], _, _, _, _ => by unfold putCells; rfl
  | _ :: _, [], _, _, _ => by unfold putCells; rfl
  | k :: is, c :: cs, st, i, h => by
    unfold putCells
    rw [List.getElem?_set_ne (fun e => h (by rw [e]; exact List.mem_cons_self))]
    exact putCells_out fun m => h (List.mem_cons_of_mem _ m)
theorem putCells_in : ∀ {refs : List Nat} {cs st : List Cell} {j i : Nat}, refs.Nodup → refs[j]? = some i → refs.length ≤ cs.length → i < st.length → (putCells refs cs st)[i]? = cs[j]?
  | [], _, _, _, _, _, h, _, _ => by simp at h
  | _ :: _, [], _, _, _, _, _, h, _ => by simp at h
  | k :: is, c :: cs, st, 0, i, nd, h, hl, hi => by
    simp at h
    subst h
    unfold putCells
    rw [List.getElem?_set_self (by rw [putCells_length]; exact hi)]
    rfl
  | k :: is, c :: cs, st, j + 1, i, nd, h, hl, hi => by
    have h : is[j]? = some i := by simpa using h
    have ne : k ≠ i := fun e => (List.nodup_cons.mp nd).1 (by rw [e]; exact List.mem_of_getElem? h)
    unfold putCells
    rw [List.getElem?_set_ne ne]
    rw [putCells_in (List.nodup_cons.mp nd).2 h (by simpa using hl) hi]
    simp
theorem getCells_at : ∀ {refs : List Nat} {cs : List Cell} {j i : Nat}, getCells st refs = some cs → refs[j]? = some i → ∃ c, cs[j]? = some c ∧ st[i]? = some c ∧ plainC c = true
  | [], _, _, _, _, h => by simp at h
  | k :: is, cs, j, i, e, h => by
    rw [getCells] at e
    split at e
    · rename_i c ec
      split at e
      · rename_i hp
        split at e
        · rename_i ds ed
          cases e
          cases j with
          | zero =>
            simp at h
            subst h
            exact ⟨c, rfl, ec, hp⟩
          | succ j =>
            obtain ⟨d, h1, h2⟩ := getCells_at (j := j) ed (by simpa using h)
            exact ⟨d, by simpa using h1, h2⟩
        · cases e
      · cases e
    · cases e
def rhos (ρ : List Addr) (refs : List Nat) : List Addr := refs.map fun i => ρ.getD i 0
theorem rhos_at (R : Rel K cl E0 ρ G st H) {refs : List Nat} {cs : List Cell} (e : getCells st refs = some cs) {j i : Nat} (h : refs[j]? = some i) : ∃ a, ρ[i]? = some a ∧ (rhos ρ refs)[j]? = some a := by
  obtain ⟨c, _, h2, _⟩ := getCells_at e h
  obtain ⟨a, ha, _⟩ := R.at h2
  refine ⟨a, ha, ?_⟩
  unfold rhos
  rw [List.getElem?_map, h]
  show some (ρ.getD i 0) = some a
  rw [List.getD_eq_getElem?_getD, ha]; rfl
theorem rhos_of (R : Rel K cl E0 ρ G st H) {refs : List Nat} {cs : List Cell} (e : getCells st refs = some cs) {j : Nat} {a : Addr} (h : (rhos ρ refs)[j]? = some a) : ∃ i, refs[j]? = some i ∧ ρ[i]? = some a := by
  unfold rhos at h
  rw [List.getElem?_map] at h
  cases q : refs[j]? with
  | none => rw [q] at h; cases h
  | some i =>
    obtain ⟨b, h1, h2⟩ := rhos_at R e q
    unfold rhos at h2
    rw [List.getElem?_map] at h2
    rw [h] at h2; cases h2
    exact ⟨i, rfl, h1⟩
theorem getElem?_inj {α : Type} {l : List α} (nd : l.Nodup) {i j : Nat} {a : α} (h1 : l[i]? = some a) (h2 : l[j]? = some a) : i = j := by
  have e1 := List.getElem?_eq_some_iff.mp h1
  have e2 := List.getElem?_eq_some_iff.mp h2
  exact (List.getElem_inj (h₀ := e1.1) (h₁ := e2.1) nd).mp (e1.2.trans e2.2.symm)
theorem app_cut {α : Type} {l m : List α} {i : Nat} {a : α} (h : (l ++ m)[i]? = some a) : (i < l.length ∧ l[i]? = some a) ∨ (l.length ≤ i ∧ m[i - l.length]? = some a) := by
  by_cases hi : i < l.length
  · rw [List.getElem?_append_left hi] at h; exact .inl ⟨hi, h⟩
  · rw [List.getElem?_append_right (by omega)] at h; exact .inr ⟨by omega, h⟩
theorem Rel.ret (R : Rel K cl E0 ρ G st H) {refs : List Nat} {cs : List Cell} {xs : List Addr} (nd : refs.Nodup) (hc : getCells st refs = some cs) (up : Sub H Hm) (hx : ∀ x ∈ xs, H x = none)
    (p : (xs ++ rhos ρ refs) <+: ρ') (s : Sub G G') (R' : Rel K cl ⟨strip Hm, (xs ++ rhos ρ refs).length, G⟩ ρ' G' st' H') (pl : ((st'.drop xs.length).take refs.length).all plainC = true) (ln : xs.length + refs.length ≤ st'.length) :
    Rel K cl E0 ρ G' (putCells refs (st'.drop xs.length) st) H' := by
  have lr : (rhos ρ refs).length = refs.length := List.length_map ..
  obtain ⟨tl, rfl⟩ := p
  -- a cell of the caller that is not handed in
  have notin : ∀ (i : Nat) a, ρ[i]? = some a → i ∉ refs → ∀ j : Nat, j < (xs ++ rhos ρ refs).length → (xs ++ rhos ρ refs ++ tl)[j]? ≠ some a := fun i a ha hi j hj e => by
    rw [List.getElem?_append_left hj] at e
    rcases app_cut e with ⟨h1, h2⟩ | ⟨h1, h2⟩
    · obtain ⟨o, q⟩ := R.there ha
      rw [hx a (List.mem_of_getElem? h2)] at q; cases q
    · obtain ⟨k, r1, r2⟩ := rhos_of R hc h2
      have := getElem?_inj R.nd r2 ha
      subst this
      exact hi (List.mem_of_getElem? r1)
  -- what was handed in, by places
  have inn : ∀ (j : Nat) a, j < (xs ++ rhos ρ refs).length → (xs ++ rhos ρ refs ++ tl)[j]? = some a → a ∈ xs ∨ ∃ i, i ∈ refs ∧ ρ[i]? = some a := fun j a hj e => by
    rw [List.getElem?_append_left hj] at e
    rcases app_cut e with ⟨h1, h2⟩ | ⟨h1, h2⟩
    · exact .inl (List.mem_of_getElem? h2)
    · obtain ⟨k, r1, r2⟩ := rhos_of R hc h2
      exact .inr ⟨k, List.mem_of_getElem? r1, r2⟩
  have at' : ∀ (i : Nat) a, i ∈ refs → ρ[i]? = some a → ∃ j, refs[j]? = some i ∧ (xs ++ rhos ρ refs ++ tl)[xs.length + j]? = some a ∧ j < refs.length := fun i a hi ha => by
    obtain ⟨j, hj⟩ := List.getElem?_of_mem hi
    obtain ⟨b, h1, h2⟩ := rhos_at R hc hj
    rw [ha] at h1; cases h1
    have hl : j < refs.length := (List.getElem?_eq_some_iff.mp hj).1
    refine ⟨j, hj, ?_, hl⟩
    rw [List.getElem?_append_left (by rw [List.length_append, lr]; omega), List.getElem?_append_right (by omega)]
    rw [show xs.length + j - xs.length = j by omega]; exact h2
  have hil : ∀ (i : Nat) a, ρ[i]? = some a → i < st.length := fun i a ha => by rw [← R.len]; exact (List.getElem?_eq_some_iff.mp ha).1
  refine ⟨by rw [putCells_length]; exact R.len, R.nd, fun i c a e1 e2 => ?_, fun i c a e1 e2 => ?_, R'.sub, fun a u e q => ?_, R.new, R.n0, fun a u e => ?_, R.ent, R'.gnt, R'.tabs⟩
  · by_cases hi : i ∈ refs
    · obtain ⟨j, h1, h2, h3⟩ := at' i a hi e2
      rw [putCells_in nd h1 (by rw [List.length_drop]; omega) (hil i a e2)] at e1
      have x := R'.cell (xs.length + j) c a (by rw [List.getElem?_drop] at e1; exact e1) h2
      have hp : plainC c = true := List.all_eq_true.mp pl c (List.mem_of_getElem? (i := j) (by rw [List.getElem?_take_of_lt h3]; exact e1))
      exact CA.plain hp x
    · rw [putCells_out hi] at e1
      by_cases hcd : c = .dead
      · subst hcd
        obtain ⟨o, z⟩ := R.cell i _ a e1 e2
        exact ⟨o, s _ _ z⟩
      · obtain ⟨o, q, po⟩ := (R.cell i c a e1 e2).po hcd
        have q2 := R'.old a o (strip_of (up a o q) po.1) (notin i a e2 hi)
        exact (R.cell i c a e1 e2).mono (List.prefix_refl _) s (q2.trans q.symm)
  · by_cases hi : i ∈ refs
    · obtain ⟨j, h1, h2, h3⟩ := at' i a hi e2
      rw [putCells_in nd h1 (by rw [List.length_drop]; omega) (hil i a e2)] at e1
      exact R'.sep (xs.length + j) c a (by rw [List.getElem?_drop] at e1; exact e1) h2
    · rw [putCells_out hi] at e1
      rcases R.sep i c a e1 e2 with z | z
      · exact .inl z
      · refine .inr ?_
        cases g : G' a with
        | none => rfl
        | some u =>
          obtain ⟨o, q⟩ := R.there e2
          rcases R'.grow a u g with y | y | ⟨j, hj, y⟩
          · have y : G a = some u := y
            rw [z] at y; cases y
          · have y : strip Hm a = none := y
            rcases strip_none y with y | ⟨ps, y⟩
            · rw [up a o q] at y; cases y
            · rw [up a o q] at y
              cases y
              exact absurd e2 ((R.tblF q).1 i)
          · exact absurd y (notin i a e2 hi j hj)
  · have h1 := R.old a u e q
    refine R'.old a u (strip_of (up a u h1) (R.ent a u e)) fun j hj y => ?_
    rcases inn j a hj y with m | ⟨i, hi, r⟩
    · rw [hx a m] at h1; cases h1
    · by_cases hn : i < E0.n0
      · exact q i hn r
      · rw [R.new i a (by omega) r] at e; cases e
  · rcases R'.grow a u e with y | y | ⟨j, hj, y⟩
    · exact R.grow a u y
    · have y : strip Hm a = none := y
      refine .inr (.inl ?_)
      rcases strip_none y with y | ⟨ps, y⟩
      · exact R.fresh0 (by
          cases g : H a with
          | none => rfl
          | some o => rw [up a o g] at y; cases y)
      · cases g : H a with
        | none => exact R.fresh0 g
        | some o =>
          rw [up a o g] at y
          cases y
          exact (R.tblF g).2
    · rcases inn j a hj y with m | ⟨i, hi, r⟩
      · exact .inr (.inl (R.fresh0 (hx a m)))
      · by_cases hn : i < E0.n0
        · exact .inr (.inr ⟨i, hn, r⟩)
        · exact .inr (.inl (R.new i a (by omega) r))
section
variable {f : Addr} {fd : FuncData} {ps : List Str} {F : FM} {a : AM} {k : Nat} {x m : Str} {p pos apos : Pos} {e : Expr} {es : List Expr}
theorem Rel.loose (R : Rel K cl E0 ρ G st H) {p : Addr} {o : HO} (h : H p = none) : Rel K cl E0 ρ G st (upd H p o) := by
  have ne : ∀ (i : Nat) a, ρ[i]? = some a → a ≠ p := fun i a e z => R.apart h i (by rw [e, z])
  have gp := R.gnone h
  refine ⟨R.len, R.nd, fun i c a e1 e2 => (R.cell i c a e1 e2).mono (List.prefix_refl _) (Sub.refl _) (upd_ne (ne i a e2)), R.sep, fun a u e => ?_, fun a u e q => ?_, R.new, R.n0, R.grow, R.ent, R.gnt, fun q hq => tabs_new (R.tabs q hq) h⟩
  · rw [upd_ne (fun z => by rw [z, gp] at e; cases e)]; exact R.sub a u e
  · have q2 := R.old a u e q
    rw [upd_ne (ne_of_none q2 h)]; exact q2
structure FldAt (K : PySem.W.Frag) (cl : Cls) (fn : Str) (c i : Nat) : Prop where
  ex : ∃ C ns, cl[c]? = some (C, ns) ∧ ns.Nodup ∧ ns[i]? = some fn ∧ L2.Cls K C ∧ NoAttr K C fn
end
end
end Y
namespace Y
open PySem PySem.Spec PyProof.Rows L2
def runF (np N : Nat) (m : SMm) : FM := fun ws st => if ws.length = np then match m (ws.map some ++ List.replicate (N - np) none) st with
  | .ok .nx _ st1 => .ok (.p .non) st1
  | .ok (.rt w) _ st1 => .ok w st1
  | _ => .no
  else .no
abbrev cxD (P : Program) (w : World) (K : PySem.W.Frag) (mg : Str → Option Value) (base : Heap) (N : List Str) (qual : Str) (scope : Scope) (f : Addr) (cd : Value) (A : Around) (outer : List Env) (s : Shared) (H : Hp) (E : XK) : Cx :=
  (cxOf CX0 P w K mg base N qual scope f cd A outer s H E).nox
section
variable {K : PySem.W.Frag} {cl : Cls} {X : Cx} {Wx : WX} {E0 : En} {ρ ρ' : List Addr} {G G' : Hp} {σ : Sg} {τ : L2.St} {st : List Cell} {H : Hp} {D : Ends}
theorem gx_of {P : Program} {w : World} {mg : Str → Option Value} {base : Heap} {N ps : List Str} {qual : Str} {scope : Scope} {f : Addr} {cd : Value} {A : Around} {outer : List Env} {s : Shared} {H : Hp} {E : XK} {k : Nat}
    (S : FnScope N ps scope) (hr : Room k (A.deeper (envOfC qual scope s.heap.objs.size f cd))) : GX K (cxD P w K mg base N qual scope f cd A outer s H E) :=
  ⟨rfl, rfl, S.nd, by have := hr.un; show (A.deeper _).units + 65 < cLine; omega, hr.hd⟩
theorem fn_end {P : Program} {w : World} {mg : Str → Option Value} {base : Heap} {N ps : List Str} {qual : Str} {body : List Stmt} {scope : Scope} {f : Addr} {cd : Value} {A : Around} {outer : List Env} {s : Shared} {H : Hp} {E E' : XK} {m : SMm} {vs : List V} {Q : VK} (S : FnScope N ps scope)
    (hb : SSs K cl (cxD P w K mg base N qual scope f cd A outer s H E) WF m body) (h : spF K cl (runF ps.length N.length m) vs H Q E') : TSs' (cxD P w K mg base N qual scope f cd A outer s H E) body { nx := fun _ H' => Q .non H', rt := Q } (L2.start N vs) H := by
  obtain ⟨ρ0, G0, st0, ws, R, r, a⟩ := h
  unfold runF at a
  split at a
  case isFalse => exact a.elim
  rename_i hl
  have lv : vs.length = ps.length := by rw [← r.length]; exact hl
  refine hb.run ⟨strip H, ρ0.length, G0⟩ ρ0 G0 (ws.map some ++ List.replicate (N.length - ps.length) none) st0 (L2.start N vs) H _ R ?_ ?_
  · unfold L2.start
    rw [lv]
    refine ⟨by rw [List.length_append, List.length_append, List.length_map, List.length_map, hl, lv, List.length_replicate, List.length_replicate], fun i w' e => ?_⟩
    rcases app_cut e with ⟨h1, h2⟩ | ⟨h1, h2⟩
    · rw [List.length_map] at h1
      rw [List.getElem?_map] at h2
      cases q : ws[i]? with
      | none => rw [q] at h2; cases h2
      | some u =>
        rw [q] at h2
        have h2 : some (some u) = some (some w') := h2
        cases h2
        obtain ⟨v, ev, rv⟩ := r.get q
        refine ⟨v, ?_, rv⟩
        rw [List.getElem?_append_left (by rw [List.length_map, lv, ← hl]; exact h1), List.getElem?_map, ev]; rfl
    · rw [List.getElem?_replicate] at h2
      split at h2 <;> cases h2
  · generalize m (ws.map some ++ List.replicate (N.length - ps.length) none) st0 = res at a ⊢
    cases res with
    | no => exact a.elim
    | exc x σ st => exact a.elim
    | ok fl σ st =>
      cases fl with
      | nx => exact fun ρ' G' H' τ' p s R' S' => a ρ' G' H' .non p s R' RP.non
      | rt u => exact fun ρ' G' H' τ' p s R' S' v rv => a ρ' G' H' v p s R' rv
      | bk => exact a.elim
      | ct => exact a.elim
theorem fn_ok {P : Program} {w : World} {mg : Str → Option Value} {base : Heap} {N ps : List Str} {x qual : Str} {params : Arguments} {body : List Stmt} {scope : Scope} {dvs : List V} {kws : List (Str × V)} {f : Addr} {fd : FuncData} {k : Nat} {m : SMm}
    (F : FunD K x qual params body scope dvs kws f fd) (S : FnScope N ps scope) (hb : ∀ (cd : Value) (A : Around) (outer : List Env) (s : Shared) (H : Hp) (E : XK), Room k (A.deeper (envOfC qual scope s.heap.objs.size f cd)) → SSs K cl (cxD P w K mg base N qual scope f cd A outer s H E) WF m body) :
    FnOk P w K mg base CX0 (k + 1) f fd ps (spF K cl (runF ps.length N.length m)) := by
  refine F.ok S (fun vs H Q E h => ?_) (fun cd A outer s H vs Q E hr h => ⟨TSs' (cxD P w K mg base N qual scope f cd A outer s H E) body, PSs.nox TSs'.pss, fn_end S (hb cd A outer s H E hr) h⟩)
  · obtain ⟨ρ0, G0, st0, ws, R, r, a⟩ := h
    unfold runF at a
    split at a
    · rename_i hl; rw [← r.length]; exact hl
    · exact a.elim
inductive SJ (K : PySem.W.Frag) (cl : Cls) (X : Cx) (Wx : WX) : List EM → List Expr → Prop where
  | nil : SJ K cl X Wx [] []
  | cons {m : EM} {e : Expr} {ms : List EM} {es : List Expr} (h : SE K cl X Wx m e) (r : SJ K cl X Wx ms es) : SJ K cl X Wx (m :: ms) (e :: es)
end
end Y
namespace Y
open PySem PySem.Spec PyProof.Rows L2
section
variable {K : PySem.W.Frag} {cl : Cls} {X : Cx} {Wx : WX} {E0 : En} {ρ ρ' : List Addr} {G G' : Hp} {σ : Sg} {τ : L2.St} {st : List Cell} {H : Hp} {D : Ends}
def mtF : List (Str × SMm) → Str → SMm
  | [], _ => sNx
  | (z, b) :: r, y => fun σ st => if y = z then b σ st else mtF r y σ st
inductive SMc (K : PySem.W.Frag) (cl : Cls) (X : Cx) (Wx : WX) : List (Str × SMm) → List MatchCase → Prop where
  | nil : SMc K cl X Wx [] []
  | cons {z : Str} {b : SMm} {cs : List (Str × SMm)} {body : List Stmt} {rest : List MatchCase} {j : Nat} {p pos : Pos} (h : SSs K cl X Wx b body) (r : SMc K cl X Wx cs rest) : SMc K cl X Wx ((z, b) :: cs) (⟨.MatchValue (.Constant (.str z) j p) pos, none, body⟩ :: rest)
theorem SMc.ok (g : GX K X) {cs : List (Str × SMm)} {mc : List MatchCase} (h : SMc K cl X Wx cs mc) : ∀ {E0 : En} {ρ : List Addr} {G : Hp} {σ : Sg} {st : List Cell} {τ : L2.St} {H : Hp} {D : Ends} {y : Str} {pins : List (Addr × Obj)} {s : Shared} {v : Value} {fst : Bool}, (bs K cl E0).Rel ρ G st H → RS K cl ρ G σ τ →
    AftS (bs K cl E0) ρ G (mtF cs y σ st) D Wx → Inv X pins τ H s → RelV (.str y) v → wpAny (model X.prog X.w) X.A (matchCases mc X.env v fst) (SP X pins D) X.xe s := by
  induction h with
  | nil => intro E0 ρ G σ st τ H D y pins s v fst R S q I rv; exact wpAny_matchCases_nil ⟨τ, H, I, AftS.nx q R S⟩
  | @cons z b cs body rest j p pos h r ih =>
    intro E0 ρ G σ st τ H D y pins s v fst R S q I rv
    refine wpAny_matchCases_cons (wpAny_matchPattern_Value ?_)
    refine thn (pe_str.run pins s τ H (fun x H1 => x = .str z ∧ H1 = H) I ⟨rfl, rfl⟩) fun u s1 ⟨x, H1, I1, ru, ex, eH⟩ => ?_
    subst ex eH
    refine thn (op_eq pins s1 τ H1 (.str y) (.str z) v u (fun x H2 => x = .bl (decide (V.str y = V.str z)) ∧ H2 = H1) I1 rv ru ⟨rfl, rfl, rfl⟩) fun c s2 ⟨x, H2, I2, rc, ex, eH⟩ => ?_
    subst ex eH
    cases rc
    refine wpAny_truthy_bool ?_
    have q : AftS (bs K cl E0) ρ G (if y = z then b σ st else mtF cs y σ st) D Wx := q
    by_cases hz : y = z
    · subst hz
      have e1 : decide (V.str y = V.str y) = true := by simp
      rw [e1, if_pos rfl]
      rw [if_pos rfl] at q
      show wpAny _ X.A (assignInOrder [] []) _ _ _
      exact assignInOrder_nil (h.run E0 ρ G σ st τ H2 D R S q pins s2 I2)
    · have e1 : decide (V.str y = V.str z) = false := by simp [hz]
      rw [e1, if_neg Bool.false_ne_true]
      rw [if_neg hz] at q
      exact ih R S q I2 rv
end
end Y
namespace Y
open PySem PySem.Spec PyProof.Rows L2
inductive ZK where
  | L (a : Addr) | T (a : Addr) | S (x : Str)
def ZK.val : ZK → V
  | .L a => .ref a
  | .T a => .ref a
  | .S x => .str x
def ZK.len (K : PySem.W.Frag) (H : Hp) (n : Nat) : ZK → Prop
  | .L a => ∃ xs, SqL K H a xs ∧ xs.length = n
  | .T a => ∃ xs, SqT K H a xs ∧ xs.length = n
  | .S x => x.cps.size = n
def ZK.sure (K : PySem.W.Frag) (H : Hp) (i : Nat) (v : V) : ZK → Prop
  | .L a => ∀ xs, SqL K H a xs → xs[i]? = some v
  | .T a => ∀ xs, SqT K H a xs → xs[i]? = some v
  | .S x => ∃ c, x.cps[i]? = some c ∧ v = .str ⟨#[c]⟩
def ZK.itr (t : Tok) (h : Heap) (it : Addr) (i : Nat) : ZK → Prop
  | .L a => h.IsListIter it a i
  | .T a => h.IsTupleIter it a i
  | .S x => h.IsStrIter it (strIterType x) x t i
def ZK.off (it : Addr) : ZK → Prop
  | .L a => a ≠ it
  | .T a => a ≠ it
  | .S _ => True
section
variable {X : Cx} {pins : List (Addr × Obj)} {τ : L2.St} {H : Hp} {s : Shared}
theorem ZK.itr_at {kd : ZK} {t : Tok} {h h' : Heap} {it : Addr} {i : Nat} (g : kd.itr t h it i) (k : ∀ o, h.get? it = some o → h'.get? it = some o) : kd.itr t h' it i := by
  cases kd with
  | L a => exact Heap.IsListIter.at g k
  | T a => exact Heap.IsTupleIter.at g k
  | S x => obtain ⟨o, ho, r⟩ := g; exact ⟨o, k o ho, r⟩
theorem ZK.itr_rec {kd : ZK} {t : Tok} {h : Heap} {it : Addr} {i : Nat} (g : kd.itr t h it i) : ∃ o, h.get? it = some o ∧ ∀ v, o.data ≠ .cell v := by
  cases kd with
  | L a => obtain ⟨o, ho, _, hd⟩ := g; exact ⟨o, ho, fun v e => by rw [hd] at e; cases e⟩
  | T a => obtain ⟨o, ho, _, hd⟩ := g; exact ⟨o, ho, fun v e => by rw [hd] at e; cases e⟩
  | S x => obtain ⟨o, ho, _, hd⟩ := g; exact ⟨o, ho, fun v e => by rw [hd] at e; cases e⟩
structure ZApart (z TI TO i1 i2 : Addr) (k1 k2 : ZK) : Prop where
  TIz : TI ≠ z
  TOz : TO ≠ z
  i1z : i1 ≠ z
  i2z : i2 ≠ z
  TITO : TI ≠ TO
  TIi1 : TI ≠ i1
  TIi2 : TI ≠ i2
  TOi1 : TO ≠ i1
  TOi2 : TO ≠ i2
  i12 : i1 ≠ i2
  o1 : ∀ a, k1.val = .ref a → a ≠ z ∧ a ≠ TO ∧ a ≠ i1 ∧ a ≠ i2
  o2 : ∀ a, k2.val = .ref a → a ≠ z ∧ a ≠ TO ∧ a ≠ i1 ∧ a ≠ i2
theorem ZApart.sep {z TI TO i1 i2 : Addr} {k1 k2 : ZK} {fp1 fp2 : List Addr} (D : ZApart z TI TO i1 i2 k1 k2) (m1 : i1 ∈ fp1) (m2 : i2 ∈ fp2) (h1 : ∀ b ∈ fp1, b ≠ i1 → k1.val = .ref b) (h2 : ∀ b ∈ fp2, b ≠ i2 → k2.val = .ref b) : ZipSep2 z TI TO i1 i2 fp1 fp2 where
  TIz := D.TIz
  TOz := D.TOz
  TITO := D.TITO
  TIi1 := D.TIi1
  mem1 := m1
  zf1 := fun m => by
    by_cases e : z = i1
    · exact D.i1z e.symm
    · exact (D.o1 z (h1 z m e)).1 rfl
  Tf1 := fun m => (D.o1 TO (h1 TO m D.TOi1)).2.1 rfl
  TIi2 := D.TIi2
  mem2 := m2
  zf2 := fun m => by
    by_cases e : z = i2
    · exact D.i2z e.symm
    · exact (D.o2 z (h2 z m e)).1 rfl
  Tf2 := fun m => (D.o2 TO (h2 TO m D.TOi2)).2.1 rfl
  sep1_2 := fun m => (D.o2 i1 (h2 i1 m D.i12)).2.2.1 rfl
  sep2_1 := fun m => (D.o1 i2 (h1 i2 m (Ne.symm D.i12))).2.2.2 rfl
end
section
variable {K : PySem.W.Frag} {cl : Cls} {X : Cx} {Wx : WX} {E0 : En} {ρ ρ' : List Addr} {G G' : Hp} {σ : Sg} {τ : L2.St} {st : List Cell} {H : Hp} {D : Ends}
structure ZRel (K : PySem.W.Frag) (cl : Cls) (G : Hp) (kd : ZK) (l : List P) : Prop where
  len : ∀ G' H, Sub G G' → Sub G' H → kd.len K H l.length
  at_ : ∀ G' H i x v, Sub G G' → Sub G' H → l[i]? = some x → kd.sure K H i v → RP K cl G' x v
end
end Y
namespace Y
open PySem PySem.Spec PyProof.Rows L2
section
variable {K : PySem.W.Frag} {cl : Cls} {X : Cx} {Wx : WX} {E0 : En} {ρ ρ' : List Addr} {G G' : Hp} {σ : Sg} {τ : L2.St} {st : List Cell} {H : Hp} {D : Ends}
structure KTab (K : PySem.W.Frag) (w : World) (d : Addr) (kvs : List (Str × Str)) : Prop where
  kd : ∃ es n, KDict K w d es n
  yes : ∀ z y, kvs.lookup z = some y → ∃ t, PySem.W.nsIn K d z = some (some (.str y t))
  no : ∀ z, kvs.lookup z = none → PySem.W.nsIn K d z = some none
end
end Y
namespace Y
open PySem PySem.Spec PyProof.Rows L2
section
variable {K : PySem.W.Frag} {cl : Cls} {X : Cx} {Wx : WX} {E0 : En} {ρ ρ' : List Addr} {G G' : Hp} {σ : Sg} {τ : L2.St} {st : List Cell} {H : Hp} {D : Ends}
structure Fk (P : Program) (w : World) (K : PySem.W.Frag) (mg : Str → Option Value) (base : Heap) (cl : Cls) (k : Nat) (f : Addr) (ps : List Str) (F : FM) : Prop where
  ex : ∃ fd, FnOk P w K mg base CX0 k f fd ps (spF K cl F) ∧ Binds K fd ps []
  kp : PySem.W.keepIn K (.ref f) = true
theorem Fk.of {P : Program} {w : World} {mg : Str → Option Value} {base : Heap} {N ps : List Str} {x qual : Str} {params : Arguments} {body : List Stmt} {scope : Scope} {f : Addr} {k : Nat} {m : SMm}
    (F : ∃ fd, FunD K x qual params body scope [] [] f fd) (S : FnScope N ps scope) (bd : ∀ (kV doc pm : Value) (an : Option Addr) (cdv ct : Value) (us : List Value), us.length = ps.length → bindArgs (PySem.W.fnOf x qual params body scope .none kV doc pm an cdv ct) ⟨us, []⟩ = pure (ps.zip us))
    (hb : ∀ (cd : Value) (A : Around) (outer : List Env) (s : Shared) (H : Hp) (E : XK), GX K (cxD P w K mg base N qual scope f cd A outer s H E) → Room k (A.deeper (envOfC qual scope s.heap.objs.size f cd)) → SSs K cl (cxD P w K mg base N qual scope f cd A outer s H E) WF m body) :
    Fk P w K mg base cl (k + 1) f ps (runF ps.length N.length m) := by
  obtain ⟨fd, F⟩ := F
  exact ⟨⟨fd, fn_ok F S fun cd A outer s H E hr => hb cd A outer s H E (gx_of S hr) hr, F.bindsN bd⟩, F.kp⟩
theorem Fk.zero {P : Program} {w : World} {mg : Str → Option Value} {base : Heap} {N ps : List Str} {x qual : Str} {params : Arguments} {body : List Stmt} {scope : Scope} {f : Addr} {F' : FM} (h : ∀ ws st, F' ws st = .no)
    (F : ∃ fd, FunD K x qual params body scope [] [] f fd) (bd : ∀ (kV doc pm : Value) (an : Option Addr) (cdv ct : Value) (us : List Value), us.length = ps.length → bindArgs (PySem.W.fnOf x qual params body scope .none kV doc pm an cdv ct) ⟨us, []⟩ = pure (ps.zip us)) : Fk P w K mg base cl 0 f ps F' := by
  obtain ⟨fd, F⟩ := F
  refine ⟨⟨fd, ⟨fun vs H Q E q => ?_, fun A outer s H args us vs Q E hr he hb hv q => ?_⟩, F.bindsN bd⟩, F.kp⟩
  · obtain ⟨ρ0, G0, st0, ws, R, r, a⟩ := q
    rw [h] at a; exact a.elim
  · obtain ⟨ρ0, G0, st0, ws, R, r, a⟩ := q
    rw [h] at a; exact a.elim
theorem Fk.mono {P : Program} {w : World} {mg : Str → Option Value} {base : Heap} {j k : Nat} {f : Addr} {ps : List Str} {F : FM} (h : Fk P w K mg base cl j f ps F) (q : j ≤ k) : Fk P w K mg base cl k f ps F := by
  obtain ⟨⟨fd, h1, h2⟩, h3⟩ := h
  exact ⟨⟨fd, h1.mono q, h2⟩, h3⟩
def vis (sc : Scope) (x : Str) : Bool := match sc.names.lookup x with
  | some .local => true
  | some .cell => true
  | some .free => true
  | _ => false
theorem vis_ok {sc : Scope} {x : Str} (h : vis sc x = true) : Vis sc x := by
  unfold vis at h
  split at h
  · exact .inl (by assumption)
  · exact .inr (.inl (by assumption))
  · exact .inr (.inr (by assumption))
  · cases h
def loc (sc : Scope) (x : Str) : Bool := match sc.names.lookup x with
  | some .local => true
  | some .cell => true
  | _ => false
theorem v {i : Nat} {x : Str} {pos : Pos} (hN : X.N[i]? = some x) (hv : vis X.env.scope x = true) (hd : ((x == ("__debug__" : Str)) || (x == ("__classdict__" : Str))) = false) : SE K cl X Wx (mVar i) (.Name x pos) := by
  rw [Bool.or_eq_false_iff] at hd
  exact se_var hN (vis_ok hv) hd.1 hd.2
end
end Y
namespace Y
open PySem PySem.Spec PyProof.Rows L2
def gI (ix : List Nat) {α : Type} (us ws : List α) : List α := us ++ ix.filterMap fun i => ws[i]?
structure Fk2 (Wk : FuncData → Prop) (P : Program) (w : World) (K : PySem.W.Frag) (mg : Str → Option Value) (base : Heap) (cl : Cls) (k : Nat) (f : Addr) (ps : List Str) (F : FM) : Prop where
  ex : ∃ fd, FnOk P w K mg base CX0 k f fd ps (spF K cl F) ∧ Binds K fd ps [] ∧ Wk fd
  kp : PySem.W.keepIn K (.ref f) = true
section
variable {K : PySem.W.Frag} {cl : Cls} {X : Cx} {Wx : WX} {E0 : En} {ρ ρ' : List Addr} {G G' : Hp} {σ : Sg} {τ : L2.St} {st : List Cell} {H : Hp} {D : Ends}
theorem Fk2.of {Wk : FuncData → Prop} {P : Program} {w : World} {mg : Str → Option Value} {base : Heap} {N ps : List Str} {x qual : Str} {params : Arguments} {body : List Stmt} {scope : Scope} {f : Addr} {k : Nat} {m : SMm}
    (F : ∃ fd, FunD K x qual params body scope [] [] f fd) (S : FnScope N ps scope) (bd : ∀ (kV doc pm : Value) (an : Option Addr) (cdv ct : Value) (us : List Value), us.length = ps.length → bindArgs (PySem.W.fnOf x qual params body scope .none kV doc pm an cdv ct) ⟨us, []⟩ = pure (ps.zip us))
    (hw : ∀ fd, FunD K x qual params body scope [] [] f fd → Wk fd)
    (hb : ∀ (cd : Value) (A : Around) (outer : List Env) (s : Shared) (H : Hp) (E : XK), GX K (cxD P w K mg base N qual scope f cd A outer s H E) → Room k (A.deeper (envOfC qual scope s.heap.objs.size f cd)) → SSs K cl (cxD P w K mg base N qual scope f cd A outer s H E) WF m body) :
    Fk2 Wk P w K mg base cl (k + 1) f ps (runF ps.length N.length m) := by
  obtain ⟨fd, F⟩ := F
  exact ⟨⟨fd, fn_ok F S fun cd A outer s H E hr => hb cd A outer s H E (gx_of S hr) hr, F.bindsN bd, hw fd F⟩, F.kp⟩
def tKw (X : Cx) : List Keyword → TA
  | [] => tNil
  | k :: ks => tCons (T X k.value) (tKw X ks)
structure SK (K : PySem.W.Frag) (cl : Cls) (X : Cx) (Wx : WX) (m : AM) (kws : List Keyword) : Prop where
  run : ∀ E0 ρ G σ st τ H Q, (bs K cl E0).Rel ρ G st H → RS K cl ρ G σ τ → Aft (bs K cl E0) (bs K cl E0).RWs ρ G (m σ st) Q (fun c d H' => Wx c d τ H') → tKw X kws τ H Q
theorem AftS.never {R : SR} (h : AftS (bs K cl E0) ρ G R D WF) : AftS (bs K cl E0) ρ G R D Wx := by
  cases R with
  | ok f σ st => exact h
  | exc x σ st => exact fun ρ' G' H' τ' c d p s R S x => (h ρ' G' H' τ' c d p s R S x).elim
  | no => exact h
def SR.nox : SR → SR
  | .exc _ _ _ => .no
  | r => r
theorem GX.nox (g : GX K X) : GX K X.nox := ⟨g.hK, g.hc, g.hN, g.hu, g.hh⟩
mutual
def kvB (K : PySem.W.Frag) : P → Value → Bool
  | .non, .none => true
  | .bl b, .bool c => b == c
  | .int i, .int j _ => i == j
  | .str x, .str y _ => x == y
  | .tup l, .ref a => match K.lookup a with
    | some o => decide (o.cls = .type "tuple") && (match o.data with
      | .seq its _ => decide (its.size ≤ sizeLine) && kvsB K l its.toList
      | _ => false)
    | none => false
  | _, _ => false
def kvsB (K : PySem.W.Frag) : List P → List Value → Bool
  | [], [] => true
  | x :: l, u :: us => kvB K x u && kvsB K l us
  | _, _ => false
end
mutual
theorem kvB_ok {K : PySem.W.Frag} : ∀ {x : P} {u : Value}, kvB K x u = true → ∃ v, RelV v u ∧ ∀ cl G, RP K cl G x v
  | .non, .none, _ => ⟨.non, rfl, fun _ _ => .non⟩
  | .bl b, .bool c, h => by
    rw [kvB] at h
    obtain rfl : b = c := by simpa using h
    exact ⟨.bl b, rfl, fun _ _ => .bl b⟩
  | .int i, .int j t, h => by
    rw [kvB] at h
    obtain rfl : i = j := by simpa using h
    exact ⟨.int i, ⟨t, rfl⟩, fun _ _ => .int i⟩
  | .str x, .str y t, h => by
    rw [kvB] at h
    obtain rfl : x = y := by simpa using h
    exact ⟨.str x, ⟨t, rfl⟩, fun _ _ => .str x⟩
  | .tup l, .ref a, h => by
    rw [kvB] at h
    cases lk : K.lookup a with
    | none => rw [lk] at h; cases h
    | some o =>
      rw [lk] at h
      simp only [Bool.and_eq_true] at h
      obtain ⟨hc, h⟩ := h
      cases hd : o.data with
      | seq its n =>
        rw [hd] at h
        simp only [Bool.and_eq_true] at h
        obtain ⟨vs, r1, r2⟩ := kvsB_ok h.2
        exact ⟨.ref a, rfl, fun cl G => .tup (.inr ⟨o, its, n, lk, of_decide_eq_true hc, hd, of_decide_eq_true h.1, r1⟩) (r2 cl G)⟩
      | _ => rw [hd] at h; cases h
theorem kvsB_ok {K : PySem.W.Frag} : ∀ {l : List P} {us : List Value}, kvsB K l us = true → ∃ vs, Vals vs us ∧ ∀ cl G, RPs K cl G l vs
  | [], [], _ => ⟨[], .nil, fun _ _ => .nil⟩
  | x :: l, u :: us, h => by
    rw [kvsB, Bool.and_eq_true] at h
    obtain ⟨v, r1, r2⟩ := kvB_ok h.1
    obtain ⟨vs, q1, q2⟩ := kvsB_ok h.2
    exact ⟨v :: vs, .cons r1 q1, fun cl G => .cons (r2 cl G) (q2 cl G)⟩
  | [], _ :: _, h => by rw [kvsB] at h <;> first | cases h | (intros; contradiction)
  | _ :: _, [], h => by rw [kvsB] at h <;> first | cases h | (intros; contradiction)
end
end
end Y
namespace Y
open PySem PySem.Spec PyProof.Rows L2
open PySem.W (ksEnv ksFn kxs_mw)
structure CScope (ps : List Str) (sc : Scope) : Prop where
  kind : sc.kind = .function
  co : sc.isCoroutine = false
  gen : sc.isGenerator = false
  nd : ps.Nodup
  par : ∀ x ∈ ps, sc.names.lookup x = some .local
  own : ∀ y ∈ sc.names, y.2 = .free → y.1 = ("__class__" : Str)
  nocell : ∀ y ∈ sc.names, y.2 ≠ .cell
  cls : sc.names.lookup ("__class__" : Str) = some .free
  sup : sc.names.lookup ("super" : Str) = some .globalImplicit
structure SayF (P : Program) (K : PySem.W.Frag) (mg : Str → Option Value) (C f cc cda : Addr) (name qual : Str) (params : Arguments) (body : List Stmt) (scope : Scope) (fd : FuncData) : Prop where
  T : OexC K C
  lk : ∃ oc od dV kV doc pm an ct osl, fd = ksFn name qual params body scope dV kV doc pm an (.ref cda) ct cc ∧ K.lookup f = some ⟨oc, od, .func fd, osl⟩
  hcd : PySem.W.codeIn K (.ref cda) qual = true
  cell : ∃ cl0 cd0 csl, K.lookup cc = some ⟨cl0, cd0, .cell (some (.ref C)), csl⟩
  par : ∃ ar, (params.posonlyargs ++ params.args).head? = some ar ∧ ar.arg = ("self" : Str)
  code : ∃ ccl cdd vs ccs file tf, K.lookup cda = some ⟨ccl, cdd, .fields vs, ccs⟩ ∧ vs[2]? = some (.str file tf) ∧ ((P.main.file : Str) == file) = true
  top : (P.main.scope.names.lookup ("super" : Str)).isSome = false
  sup : mg "super" = none
  along : PySem.W.ks_superIn K C C "__init__" = some (some (.builtin "ValueError.__init__"))
  self : PySem.W.mroIn K C (.ref C) = some true
  isVE : PySem.W.subIn K (.ref C) (.type "ValueError") = some true
  opq : PySem.W.nsIn K PySem.cStatics "thirdparty.any" = some none
section
open PySem.W PySem.Calls
variable {P : Program} {w : World} {K : PySem.W.Frag} {mg : Str → Option Value} {base : Heap} {C f cc cda : Addr} {name qual : Str} {params : Arguments} {scope : Scope} {fd : FuncData}
def spSay (ps : List Str) (C : Addr) (t : TS) : Sp := fun vs H Q _ => vs.length = ps.length ∧ ∃ a ws, vs = .ref a :: ws ∧ H a = some (exo a C none) ∧ t { nx := fun _ H' => Q .non H', rt := Q } (L2.start ps vs) H
end
end Y
namespace Y
open PySem PySem.Spec PyProof.Rows L2
open PySem.W (ksEnv ksFn kxs_mw)
def tSay0 (K : PySem.W.Frag) (T : Str) : TS := tOst K "tag" (tVar 0) (tC (.str T))
def tSay1 (K : PySem.W.Frag) (T g : Str) : TS := tSeq (tOst K "tag" (tVar 0) (tC (.str T))) (tOst K g (tVar 0) (tVar 1))
structure Exc0 (P : Program) (w : World) (K : PySem.W.Frag) (mg : Str → Option Value) (base : Heap) (cl : Cls) (k c : Nat) (C : Addr) (T : Str) : Prop where
  at_ : cl[c]? = some (C, [("tag" : Str)])
  O : OexC K C
  tag : PySem.W.findIn K (.ref C) "tag" = some none
  ex : ∃ fI fd, PySem.W.findIn K (.ref C) "__init__" = some (some (.ref fI)) ∧ PySem.W.typeIn K (.ref fI) = some (.type "function") ∧ FnOk P w K mg base CX0 k fI fd ["self"] (spSay ["self"] C (tSay0 K T)) ∧ Binds K fd ["self"] []
structure Exc1 (P : Program) (w : World) (K : PySem.W.Frag) (mg : Str → Option Value) (base : Heap) (cl : Cls) (k c : Nat) (C : Addr) (T f pn : Str) : Prop where
  at_ : cl[c]? = some (C, [f, ("tag" : Str)])
  O : OexC K C
  tag : PySem.W.findIn K (.ref C) "tag" = some none
  fld : PySem.W.findIn K (.ref C) f = some none
  ex : ∃ fI fd, PySem.W.findIn K (.ref C) "__init__" = some (some (.ref fI)) ∧ PySem.W.typeIn K (.ref fI) = some (.type "function") ∧ FnOk P w K mg base CX0 k fI fd ["self", pn] (spSay ["self", pn] C (tSay1 K T f)) ∧ Binds K fd ["self", pn] []
section
variable {K : PySem.W.Frag} {cl : Cls} {X : Cx} {Wx : WX} {E0 : En} {ρ ρ' : List Addr} {G G' : Hp} {σ : Sg} {τ : L2.St} {st : List Cell} {H : Hp} {D : Ends}
def runX (np N : Nat) (m : SMm) : FM := fun ws st => if ws.length = np then match m (ws.map some ++ List.replicate (N - np) none) st with
  | .ok .nx _ st1 => .ok (.p .non) st1
  | .ok (.rt w) _ st1 => .ok w st1
  | .exc x _ st1 => .exc x st1
  | _ => .no
  else .no
abbrev cxE (P : Program) (w : World) (K : PySem.W.Frag) (mg : Str → Option Value) (base : Heap) (N : List Str) (qual : Str) (scope : Scope) (f : Addr) (cd : Value) (A : Around) (outer : List Env) (s : Shared) (H : Hp) (E : XK) : Cx :=
  cxOf (L2.CX P w) P w K mg base N qual scope f cd A outer s H E
abbrev WE (E : XK) : WX := fun c d _ H => E c d H
theorem gx_ofE {P : Program} {w : World} {mg : Str → Option Value} {base : Heap} {N ps : List Str} {qual : Str} {scope : Scope} {f : Addr} {cd : Value} {A : Around} {outer : List Env} {s : Shared} {H : Hp} {E : XK} {k : Nat}
    (S : FnScope N ps scope) (hr : Room k (A.deeper (envOfC qual scope s.heap.objs.size f cd))) : GX K (cxE P w K mg base N qual scope f cd A outer s H E) :=
  ⟨rfl, rfl, S.nd, by have := hr.un; show (A.deeper _).units + 65 < cLine; omega, hr.hd⟩
theorem tk_ofE {P : Program} {w : World} {mg : Str → Option Value} {base : Heap} {N : List Str} {qual : Str} {scope : Scope} {f : Addr} {cd : Value} {A : Around} {outer : List Env} {s : Shared} {H : Hp} {E : XK} : Takes (cxE P w K mg base N qual scope f cd A outer s H E) (WE E) := takes_of rfl rfl rfl rfl
theorem fn_okX {P : Program} {w : World} {mg : Str → Option Value} {base : Heap} {N ps : List Str} {x qual : Str} {params : Arguments} {body : List Stmt} {scope : Scope} {dvs : List V} {kws : List (Str × V)} {f : Addr} {fd : FuncData} {k : Nat} {m : SMm}
    (F : FunD K x qual params body scope dvs kws f fd) (S : FnScope N ps scope) (hb : ∀ (cd : Value) (A : Around) (outer : List Env) (s : Shared) (H : Hp) (E : XK), Room k (A.deeper (envOfC qual scope s.heap.objs.size f cd)) → SSs K cl (cxE P w K mg base N qual scope f cd A outer s H E) (WE E) m body) :
    FnOk P w K mg base (L2.CX P w) (k + 1) f fd ps (spF K cl (runX ps.length N.length m)) := by
  refine F.ok S (fun vs H Q E h => ?_) (fun cd A outer s H vs Q E hr h => ⟨TSs' (cxE P w K mg base N qual scope f cd A outer s H E) body, TSs'.pss, ?_⟩)
  · obtain ⟨ρ0, G0, st0, ws, R, r, a⟩ := h
    unfold runX at a
    split at a
    · rename_i hl; rw [← r.length]; exact hl
    · exact a.elim
  · obtain ⟨ρ0, G0, st0, ws, R, r, a⟩ := h
    unfold runX at a
    split at a
    case isFalse => exact a.elim
    rename_i hl
    have lv : vs.length = ps.length := by rw [← r.length]; exact hl
    refine (hb cd A outer s H E hr).run ⟨strip H, ρ0.length, G0⟩ ρ0 G0 (ws.map some ++ List.replicate (N.length - ps.length) none) st0 (L2.start N vs) H _ R ?_ ?_
    · unfold L2.start
      rw [lv]
      refine ⟨by rw [List.length_append, List.length_append, List.length_map, List.length_map, hl, lv, List.length_replicate, List.length_replicate], fun i w' e => ?_⟩
      rcases app_cut e with ⟨h1, h2⟩ | ⟨h1, h2⟩
      · rw [List.length_map] at h1
        rw [List.getElem?_map] at h2
        cases q : ws[i]? with
        | none => rw [q] at h2; cases h2
        | some u =>
          rw [q] at h2
          have h2 : some (some u) = some (some w') := h2
          cases h2
          obtain ⟨v, ev, rv⟩ := r.get q
          refine ⟨v, ?_, rv⟩
          rw [List.getElem?_append_left (by rw [List.length_map, lv, ← hl]; exact h1), List.getElem?_map, ev]; rfl
      · rw [List.getElem?_replicate] at h2
        split at h2 <;> cases h2
    · generalize m (ws.map some ++ List.replicate (N.length - ps.length) none) st0 = res at a ⊢
      cases res with
      | no => exact a.elim
      | exc x σ st => exact fun ρ' G' H' τ' cls d p s R' S' u => a ρ' G' H' cls d p s R' u
      | ok fl σ st =>
        cases fl with
        | nx => exact fun ρ' G' H' τ' p s R' S' => a ρ' G' H' .non p s R' RP.non
        | rt u => exact fun ρ' G' H' τ' p s R' S' v rv => a ρ' G' H' v p s R' rv
        | bk => exact a.elim
        | ct => exact a.elim
structure Xk (P : Program) (w : World) (K : PySem.W.Frag) (mg : Str → Option Value) (base : Heap) (cl : Cls) (k : Nat) (f : Addr) (ps : List Str) (F : FM) : Prop where
  ex : ∃ fd, FnOk P w K mg base (L2.CX P w) k f fd ps (spF K cl F) ∧ Binds K fd ps []
  kp : PySem.W.keepIn K (.ref f) = true
theorem Xk.of {P : Program} {w : World} {mg : Str → Option Value} {base : Heap} {N ps : List Str} {x qual : Str} {params : Arguments} {body : List Stmt} {scope : Scope} {f : Addr} {k : Nat} {m : SMm}
    (F : ∃ fd, FunD K x qual params body scope [] [] f fd) (S : FnScope N ps scope) (bd : ∀ (kV doc pm : Value) (an : Option Addr) (cdv ct : Value) (us : List Value), us.length = ps.length → bindArgs (PySem.W.fnOf x qual params body scope .none kV doc pm an cdv ct) ⟨us, []⟩ = pure (ps.zip us))
    (hb : ∀ (cd : Value) (A : Around) (outer : List Env) (s : Shared) (H : Hp) (E : XK), GX K (cxE P w K mg base N qual scope f cd A outer s H E) → Takes (cxE P w K mg base N qual scope f cd A outer s H E) (WE E) → Room k (A.deeper (envOfC qual scope s.heap.objs.size f cd)) → SSs K cl (cxE P w K mg base N qual scope f cd A outer s H E) (WE E) m body) :
    Xk P w K mg base cl (k + 1) f ps (runX ps.length N.length m) := by
  obtain ⟨fd, F⟩ := F
  exact ⟨⟨fd, fn_okX F S fun cd A outer s H E hr => hb cd A outer s H E (gx_ofE S hr) tk_ofE hr, F.bindsN bd⟩, F.kp⟩
theorem Xk.mono {P : Program} {w : World} {mg : Str → Option Value} {base : Heap} {j k : Nat} {f : Addr} {ps : List Str} {F : FM} (h : Xk P w K mg base cl j f ps F) (q : j ≤ k) : Xk P w K mg base cl k f ps F := by
  obtain ⟨⟨fd, h1, h2⟩, h3⟩ := h
  exact ⟨⟨fd, h1.mono q, h2⟩, h3⟩
end
end Y
namespace Y
open PySem PySem.Spec PyProof.Rows L2
def WI (Wx : WX) : Prop := ∀ c d σ σ' H, Wx c d σ H → Wx c d σ' H
theorem WI.e {E : XK} : WI (WE E) := fun _ _ _ _ _ h => h
end Y
namespace Y
open PySem PySem.Spec PyProof.Rows L2 LamX
section
variable {K : PySem.W.Frag} {cl : Cls} {E0 : En} {ρ : List Addr} {G : Hp} {st : List Cell} {H H1 : Hp}
theorem Rel.grown (R : Rel K cl E0 ρ G st H) (eN : ExtN H H1) (T1 : ∀ p ∈ cl.tb, TabG G H1 p.1 p.2) : Rel K cl E0 ρ G st H1 := by
  refine ⟨R.len, R.nd, fun i c a e1 e2 => ?_, R.sep, fun a u e => eN a u (R.sub a u e) (R.gnt a u e), fun a u e q => eN a u (R.old a u e q) (R.ent a u e), R.new, R.n0, R.grow, R.ent, R.gnt, T1⟩
  by_cases hcd : c = .dead
  · subst hcd
    exact R.cell i _ a e1 e2
  · obtain ⟨o, z, po⟩ := (R.cell i c a e1 e2).po hcd
    exact (R.cell i c a e1 e2).mono (List.prefix_refl _) (Sub.refl _) ((eN a o z po.1).trans z.symm)
end
end Y
namespace Y
open PySem PySem.Spec PyProof.Rows L2
structure XfAt (K : PySem.W.Frag) (cl : Cls) (fn : Str) (c i : Nat) : Prop where
  ex : ∃ C ns, cl[c]? = some (C, ns) ∧ ns.Nodup ∧ ns[i]? = some fn ∧ XfC K C ∧ PySem.W.findIn K (.ref C) fn = some none
end Y
namespace Y
open PySem PySem.Spec PyProof.Rows L2
inductive HdsA (X : Cx) (n : Str) : List ExceptHandler → List (Value × (Addr → Value → Option Addr → TS)) → Prop
  | nil : HdsA X n [] []
  | cons {x : Str} {c : Value} {ts : Addr → Value → Option Addr → TS} {b₀ : Stmt} {suite : List Stmt} {np pos' : Pos} {hds : List ExceptHandler} {l : List (Value × (Addr → Value → Option Addr → TS))} (hc : Names X x c)
      (hsu : ∀ (a : Addr) (oe : Obj) (cls : Value) (d : Option Addr) (pn : List (Addr × Obj)), Zc cls d oe → (∃ vs, oe.data = .fields vs) → X.base.get? a = none → PSs (X.suite a ((a, oe) :: pn)) (b₀ :: suite) (ts a cls d)) (r : HdsA X n hds l) :
      HdsA X n (.ExceptHandler (some (.Name x np)) (some n) (b₀ :: suite) pos' :: hds) ((c, ts) :: l)
section
variable {X : Cx} {a : Addr} {oe : Obj} {cls : Value} {d : Option Addr}
inductive CStr : List Expr → List Str → Prop
  | nil : CStr [] []
  | cons {z : Str} {j : Nat} {p : Pos} {es : List Expr} {ls : List Str} (r : CStr es ls) : CStr (.Constant (.str z) j p :: es) (z :: ls)
end
end Y
namespace Y
open PySem PySem.Spec PyProof.Rows L2
open LamX (GivesTo CodeO LamS lamCx lamEnv TabB Tabs ExtN tLam)
def fieldN (T : Str) : Option Str := if ((["InvalidNode", "InvalidWay", "NotOfWay", "InvalidRounds", "InvalidSheets", "NotAnswered"] : List Str).any fun z => z == T) = true then some "given"
  else if ((["InvalidArc", "InvalidRules"] : List Str).any fun z => z == T) = true then some "index"
  else if ((["InvalidName", "DuplicateName", "UnknownName", "WrongKind"] : List Str).any fun z => z == T) = true then some "name"
  else if ((["CapacityExceeded", "InvalidLimit"] : List Str).any fun z => z == T) = true then some "limit"
  else if ((["TooMany", "TooWide", "TooLong"] : List Str).any fun z => z == T) = true then some "most"
  else if ((("InvalidCommand" : Str)) == T) = true then some "word"
  else if ((("ParseError" : Str)) == T) = true then some "line" else none
def EchT (K : PySem.W.Frag) (CS CM CN : Addr) (Q : VK) : XK := fun cls d H' => ∃ (C dd : Addr) (fs : List (Str × V)) (T : Str) (v : V), cls = .ref C ∧ d = some dd ∧ XfC K C ∧ PySem.W.findIn K (.ref C) ("tag" : Str) = some none ∧ H' dd = some (.xd fs) ∧ fs.lookup ("tag" : Str) = some (.str T) ∧
  (((PySem.W.exmOne K cls (.ref CS) = some true ∨ (PySem.W.exmOne K cls (.ref CS) = some false ∧ PySem.W.exmOne K cls (.ref CM) = some true)) ∧ (match fieldN T with | none => v = .non | some f => PySem.W.findIn K (.ref C) f = some none ∧ fs.lookup f = some v)) ∨
    (PySem.W.exmOne K cls (.ref CS) = some false ∧ PySem.W.exmOne K cls (.ref CM) = some false ∧ PySem.W.exmOne K cls (.ref CN) = some true ∧ v = .non)) ∧
  ∀ H2, (∀ b o, H' b = some o → H2 b = some o) → ∀ p, H2 p = none → Q (.ref p) (upd H2 p (.tup [.str T, v]))
def TTry (K : PySem.W.Frag) (CS CM CN : Addr) : (XK → Hp → VK → Prop) → Hp → VK → Prop := fun tl H Q => tl (EchT K CS CM CN Q) H fun v H' => ([V.str "value", v] : List V).length ≤ sizeLine ∧ ∀ p, H' p = none → Q (.ref p) (upd H' p (.tup [.str "value", v]))
def nsOf : Option Str → List Str
  | none => ["tag"]
  | some f => [f, "tag"]
structure TryC (K : PySem.W.Frag) (cl : Cls) (CS CM CN : Addr) (c : Nat) (T : Str) (f : Option Str) : Prop where
  ex : ∃ C, cl[c]? = some (C, nsOf f) ∧ XfC K C ∧ PySem.W.findIn K (.ref C) ("tag" : Str) = some none ∧ (∀ g, f = some g → (g == ("tag" : Str)) = false ∧ PySem.W.findIn K (.ref C) g = some none) ∧
    (((PySem.W.exmOne K (.ref C) (.ref CS) = some true ∨ (PySem.W.exmOne K (.ref C) (.ref CS) = some false ∧ PySem.W.exmOne K (.ref C) (.ref CM) = some true)) ∧ fieldN T = f) ∨
      (PySem.W.exmOne K (.ref C) (.ref CS) = some false ∧ PySem.W.exmOne K (.ref C) (.ref CM) = some false ∧ PySem.W.exmOne K (.ref C) (.ref CN) = some true ∧ f = none))
structure LamD (P : Program) (w : World) (K : PySem.W.Frag) (mg : Str → Option Value) (base : Heap) (x : Str) (g CS CM CN : Addr) : Prop where
  ex : ∃ (oc : Value) (od : Option Addr) (osl : Array (Option Value)) (pg : Arguments) (bg : List Stmt) (sg : Scope) (dV kV doc pm cdv ct : Value) (an : Option Addr) (Ng : List Str) (a : Str),
    K.lookup g = some ⟨oc, od, .func (PySem.W.fnOf x x pg bg sg dV kV doc pm an cdv ct), osl⟩ ∧ PySem.W.codeIn K cdv x = true ∧ L2.Binds K (PySem.W.fnOf x x pg bg sg dV kV doc pm an cdv ct) [a] [] ∧ FnScope Ng [a] sg ∧ Ng[0]? = some a ∧ Vis sg a ∧ (a == ("__debug__" : Str)) = false ∧ (a == ("__classdict__" : Str)) = false ∧
    ∀ X : Cx, X.prog = P → X.w = w → X.K = K → X.mg = mg → X.base = base → Room 2 X.A → ∀ q, GivesTo X Ng x sg g cdv bg a q (TTry K CS CM CN)
  kp : PySem.W.keepIn K (.ref g) = true
section
variable {K : PySem.W.Frag} {cl : Cls} {X : Cx} {Wx : WX}
open LamX (CodeO ExtN TabB)
def kE : Expr → Nat → Option Expr
  | .BoolOp _ vs _, k => vs[k]?
  | .BinOp l _ r _, k => [l, r][k]?
  | .UnaryOp _ o _, k => [o][k]?
  | .IfExp t b o _, k => [t, b, o][k]?
  | .Compare l _ cs _, k => (l :: cs)[k]?
  | .Call f as _ _, k => (f :: as)[k]?
  | .List es _, k => es[k]?
  | .Tuple es _ _, k => es[k]?
  | .Subscript v s _, k => [v, s][k]?
  | .Attribute v _ _, k => [v][k]?
  | .ListComp e _ _ _, k => [e][k]?
  | _, _ => none
def kS : Stmt → Option Expr
  | .Assign _ v _ => some v
  | .Return v _ => v
  | .If t _ _ _ => some t
  | .For _ i _ _ _ => some i
  | .While t _ _ _ => some t
  | .Expr v _ => some v
  | .AugAssign _ _ v _ => some v
  | _ => none
def bS : Stmt → List Stmt
  | .FunctionDef (body := b) .. => b
  | .If _ b o _ => b ++ o
  | .For _ _ b o _ => b ++ o
  | .While _ b o _ => b ++ o
  | .Try b _ _ _ _ => b
  | _ => []
def dnS : Option Stmt → List Nat → Option Stmt
  | s, [] => s
  | some s, k :: l => dnS (bS s)[k]? l
  | none, _ :: _ => none
def dnE : Option Expr → List Nat → Option Expr
  | s, [] => s
  | some s, k :: l => dnE (kE s k) l
  | none, _ :: _ => none
def lamAt (s : Stmt) (sp ep : List Nat) : LamR := match dnE ((dnS (some s) sp).bind kS) ep with
  | some (.Lambda a b sc _) => ⟨a, b, sc, !a.args.isEmpty⟩
  | _ => ⟨⟨[], [], none, [], [], none, []⟩, .Name Str.empty ⟨0, 0, 0, 0⟩, default, false⟩
end
end Y
namespace Y
open PySem PySem.Spec PyProof.Rows L2
open LamX (CodeO ExtN TabB)
structure LamS3 (N : List Str) (sc scope : Scope) : Prop where
  kind : scope.kind = .function
  co : scope.isCoroutine = false
  gen : scope.isGenerator = false
  own : ∀ y ∈ scope.names, y.2 ≠ .cell ∧ (y.2 = .local → y.1 ∉ N)
  free : ∀ y ∈ scope.names, y.2 = .free → sc.names.lookup y.1 = some .cell ∨ sc.names.lookup y.1 = some .free
def lamS3B (N : List Str) (sc scope : Scope) : Bool :=
  decide (scope.kind = .function) && !scope.isCoroutine && !scope.isGenerator && scope.names.all fun y => !decide (y.2 = .cell) && (!decide (y.2 = .local) || !N.contains y.1) && (!decide (y.2 = .free) || decide (sc.names.lookup y.1 = some .cell) || decide (sc.names.lookup y.1 = some .free))
section
variable {K : PySem.W.Frag} {cl : Cls} {X : Cx} {Wx : WX} {E0 : En} {ρ : List Addr} {G : Hp} {σ : Sg} {τ : L2.St} {st : List Cell} {H : Hp}
theorem codeO_nt {c : Addr} {q : Str} : NT (CodeO c q) := fun _ z => by unfold CodeO at z; cases z
theorem Rel.code {Pt c' : Addr} {q : Str} {ps ps' : Array Value} (R : Rel K cl E0 ρ G st H) (hP : H Pt = some (.tbl ps)) (hc : H c' = none) (hu : ∀ p ∈ cl.tb, p.1 = Pt → p.2 = q) (ht : TriplesOk ps'.toList)
    (ha : ∀ (pos : Pos) (cv : Value), codeAmong pos ps'.toList = some cv → ∃ c, cv = .ref c ∧ upd G c' (CodeO c' q) c = some (CodeO c q)) : Rel K cl E0 ρ (upd G c' (CodeO c' q)) st (upd (upd H Pt (.tbl ps')) c' (CodeO c' q)) := by
  have R' := R.froze (o := CodeO c' q) hc codeO_nt
  have ne : Pt ≠ c' := ne_of_none hP hc
  refine R'.grown (fun b o e n => ?_) fun p hp => ?_
  · by_cases hb : b = c'
    · rw [hb] at e ⊢
      rw [upd_same] at e ⊢
      exact e
    · rw [upd_ne hb] at e ⊢
      rw [upd_ne fun z => by rw [z, hP] at e; exact n ps (Option.some.inj e).symm]
      exact e
  · by_cases hb : p.1 = Pt
    · rw [hu p hp hb, hb]
      exact ⟨ps', by rw [upd_ne ne, upd_same], ht, ha⟩
    · obtain ⟨qs, e1, e2, e3⟩ := R'.tabs p hp
      have ec : p.1 ≠ c' := fun z => by
        rw [z, upd_same] at e1
        exact codeO_nt qs (Option.some.inj e1)
      rw [upd_ne ec] at e1
      exact ⟨qs, by rw [upd_ne ec, upd_ne hb]; exact e1, e2, e3⟩
end
end Y
namespace Y
open PySem PySem.Spec PyProof.Rows L2
open LamX (CodeO ExtN TabB lamCx lamEnv GivesTo)
structure CFc (N : List Str) (sc : Scope) (cells : List (Str × Addr)) (σ : L2.St) (h : Heap) (H : Hp) : Prop where
  at_ : ∀ x c, cells.lookup x = some c → (∃ v, h.IsCell c v) ∧ H c = none
  val : ∀ (i : Nat) x v, N[i]? = some x → σ[i]? = some (some v) → (sc.names.lookup x = some .cell ∨ sc.names.lookup x = some .free) → ∃ u c, RelV v u ∧ cells.lookup x = some c ∧ h.IsCell c (some u)
  inj : ∀ x y c, cells.lookup x = some c → cells.lookup y = some c → x = y
  has : ∀ x, (sc.names.lookup x = some .cell ∨ sc.names.lookup x = some .free) → ∃ c, cells.lookup x = some c
  len : σ.length = N.length
section
variable {X X0 : Cx} {pins : List (Addr × Obj)} {σ : L2.St} {H HZ : Hp} {s s1 : Shared}
theorem CFc.un {N : List Str} {sc : Scope} {cells : List (Str × Addr)} {fs ex : List Addr} {H' : Hp} {h h' : Heap} (c : CFc N sc cells σ h H) (un : Un fs ex H H' h h') (hx : ∀ x a, cells.lookup x = some a → a ∉ ex) : CFc N sc cells σ h' H' := by
  have k : ∀ {x a v}, cells.lookup x = some a → h.IsCell a v → h'.IsCell a v := fun {x a v} e ⟨o, ho, hd⟩ => by
    obtain ⟨sl, q⟩ := un.any ho (c.at_ x a e).2 (hx x a e)
    exact ⟨_, q, hd⟩
  refine ⟨fun x a e => ?_, fun i x v e1 e2 q => ?_, c.inj, c.has, c.len⟩
  · obtain ⟨⟨v, z⟩, n⟩ := c.at_ x a e
    obtain ⟨o, ho, _⟩ := id z
    exact ⟨⟨v, k e z⟩, un.free a o ho n (hx x a e)⟩
  · obtain ⟨u, a, r, e, z⟩ := c.val i x v e1 e2 q
    exact ⟨u, a, r, e, k e z⟩
theorem CFc.kept {N : List Str} {sc : Scope} {cells : List (Str × Addr)} {h h' : Heap} (c : CFc N sc cells σ h H) (kp : ∀ b o, h.get? b = some o → h'.get? b = some o) : CFc N sc cells σ h' H :=
  c.un (fs := []) (ex := []) (Un.kept kp) fun _ _ _ z => by cases z
def BindD (r : LamR) : Prop := (r.dfl = false → ∀ (q : Str) (clos : List (Str × Addr)) (pm cv ct : Value), bindArgs { PySem.W.kla_fn "<lambda>" q r.params r.body r.scope clos pm cv ct with defaults := .none } ⟨[], []⟩ = pure []) ∧
  (r.dfl = true → ∃ pa, r.scope.names.lookup pa = some .local ∧ ∀ (q : Str) (clos : List (Str × Addr)) (pm cv ct dV : Value), ∃ k : Option (Array Value) → Sem (List (Str × Value)), bindArgs { PySem.W.kla_fn "<lambda>" q r.params r.body r.scope clos pm cv ct with defaults := dV } ⟨[], []⟩ = (seqItems? dV >>= k) ∧ ∀ v, k (some #[v]) = pure [(pa, v)])
end
end Y
namespace Y
open PySem PySem.Spec PyProof.Rows L2
open LamX (CodeO ExtN TabB lamCx lamEnv GivesTo)
section
variable {K : PySem.W.Frag} {cl : Cls} {X : Cx} {Wx : WX}
def LamOk1 (K : PySem.W.Frag) (cl : Cls) (X : Cx) (k i : Nat) (b : EM) : Prop := ∃ r, cl.lm[i]? = some r ∧ lamS3B X.N X.env.scope r.scope = true ∧ BindD r ∧ ∀ (A : Around) (outer : List Env) (s : Shared) (H : Hp) (E : XK) (f c' : Addr), GX K (lamCx X A outer s H E r.scope f c') → Takes (lamCx X A outer s H E r.scope f c') (WE E) →
  Room k (A.deeper (lamEnv X r.scope s.heap.objs.size f c')) → SE K cl (lamCx X A outer s H E r.scope f c') (WE E) b r.body
def LamsOk (K : PySem.W.Frag) (cl : Cls) (X : Cx) (k : Nat) : Nat → List EM → Prop
  | _, [] => True
  | i, b :: ms => LamOk1 K cl X k i b ∧ LamsOk K cl X k (i + 1) ms
theorem LamsOk.get {k : Nat} : ∀ {ms : List EM} {i0 i : Nat} {b : EM}, LamsOk K cl X k i0 ms → ms[i]? = some b → LamOk1 K cl X k (i0 + i) b
  | [], _, _, _, _, e => by simp at e
  | b0 :: ms, i0, 0, b, h, e => by
    simp at e
    subst e
    exact h.1
  | b0 :: ms, i0, i + 1, b, h, e => by
    have := LamsOk.get (i := i) h.2 (by simpa using e)
    rw [show i0 + (i + 1) = i0 + 1 + i by omega]
    exact this
end
end Y
namespace Y
open PySem PySem.Spec PyProof.Rows L2
open LamX (CodeO ExtN TabB lamCx lamEnv GivesTo)
structure WordD (P : Program) (w : World) (K : PySem.W.Frag) (mg : Str → Option Value) (base : Heap) (x y : Str) (g gy : Addr) : Prop where
  ex : ∃ (oc : Value) (od : Option Addr) (osl : Array (Option Value)) (pg : Arguments) (bg : List Stmt) (sg : Scope) (dV kV doc pm cdv ct : Value) (an : Option Addr) (Ng : List Str) (a : Str) (p1 p2 p3 p4 p5 p6 : Pos) (j : Nat),
    K.lookup g = some ⟨oc, od, .func (PySem.W.fnOf x x pg bg sg dV kV doc pm an cdv ct), osl⟩ ∧ PySem.W.codeIn K cdv x = true ∧ L2.Binds K (PySem.W.fnOf x x pg bg sg dV kV doc pm an cdv ct) [a] [] ∧ FnScope Ng [a] sg ∧ Ng[0]? = some a ∧ Vis sg a ∧ (a == ("__debug__" : Str)) = false ∧ (a == ("__classdict__" : Str)) = false ∧
    bg = [.Return (some (.Subscript (.Call (.Name y p1) [.Name a p2] [] p3) (.Constant (.int 0) j p4) p5)) p6] ∧ sg.names.lookup y = some .globalImplicit ∧ mg y = some (.ref gy) ∧ (y == ("__debug__" : Str)) = false
  kp : PySem.W.keepIn K (.ref g) = true
end Y
namespace Y
open PySem PySem.Spec PyProof.Rows L2
open PySem.W (ksFn ksEnv)
structure DefE where
  at_ : PySem.W.Frag → Addr
  name : Str
  qual : Str
  params : Arguments
  body : List Stmt
  scope : Scope
  clo : List Str
abbrev FnE : Type := Option ((Str × Str × Arguments) × (FuncBody × Scope) × Addr × List Str × Addr)
def fnE (K : PySem.W.Frag) (a : Addr) : FnE := (K.lookup a).bind fun o => match o.data with
  | .func d => some ((d.name, d.qualname, d.params), (d.body, d.scope), d.globals, d.closure.map Prod.fst, d.builtins)
  | _ => none
def DefE.val (d : DefE) : FnE := some ((d.name, d.qual, d.params), (.stmts d.body, d.scope), mainGlobals, d.clo, builtinsNs)
def DefE.okB (K : PySem.W.Frag) (d : DefE) : Bool := (K.lookup (d.at_ K)).any fun o => match o.data with
  | .func e => PySem.W.keepIn K (.ref (d.at_ K)) && PySem.W.codeIn K e.code d.qual && He.dflB K e.defaults [] && He.kwdB K e.kwdefaults []
  | _ => false
theorem DefE.ex {K : PySem.W.Frag} {d : DefE} (e : fnE K (d.at_ K) = d.val) (c : d.okB K = true) : ∃ (oc : Value) (od : Option Addr) (osl : Array (Option Value)) (clo : List (Str × Addr)) (dV kV doc pm cdv ct : Value) (an : Option Addr),
    K.lookup (d.at_ K) = some ⟨oc, od, .func (PySem.W.fnX d.name d.qual d.params d.body d.scope clo dV kV doc pm an cdv ct), osl⟩ ∧ clo.map Prod.fst = d.clo ∧ PySem.W.keepIn K (.ref (d.at_ K)) = true ∧ PySem.W.codeIn K cdv d.qual = true ∧ DflV K dV [] ∧ KwdV K kV [] := by
  unfold fnE at e
  unfold DefE.okB at c
  cases q : K.lookup (d.at_ K) with
  | none => rw [q] at c; cases c
  | some o =>
    obtain ⟨oc, od, dt, osl⟩ := o
    rw [q] at c e
    cases dt with
    | func fd =>
      obtain ⟨n1, n2, n3, n4, n5, n6, n7, n8, n9, n10, n11, n12, n13, n14, n15⟩ := fd
      have e2 : (some ((n1, n2, n3), (n4, n5), n6, n7.map Prod.fst, n15) : FnE) = some ((d.name, d.qual, d.params), (.stmts d.body, d.scope), mainGlobals, d.clo, builtinsNs) := e
      simp only [Option.some.injEq, Prod.mk.injEq] at e2
      obtain ⟨⟨h1, h2, h3⟩, ⟨h4, h5⟩, h6, h7, h8⟩ := e2
      have c2 : (PySem.W.keepIn K (.ref (d.at_ K)) && PySem.W.codeIn K n13 d.qual && He.dflB K n8 [] && He.kwdB K n9 []) = true := c
      simp only [Bool.and_eq_true] at c2
      obtain ⟨⟨⟨k1, k2⟩, k3⟩, k4⟩ := c2
      refine ⟨oc, od, osl, n7, n8, n9, n10, n11, n13, n14, n12, ?_, h7, k1, k2, He.dflB_ok k3, He.kwdB_ok k4⟩
      subst h1 h2 h3 h4 h5 h6 h8
      rfl
    | _ => cases c
structure SaysE (fa : List He.Fa) (fn : List He.DefD) (ts : List He.Tab) (tf : List He.Defn) (ex : PySem.W.Frag → Bool) (es : List DefE) (w : World) (h : Heap) (K : PySem.W.Frag) : Prop where
  x : He.SaysX fa fn ts tf ex w h K
  e : es.map (fun d => fnE K (d.at_ K)) = es.map DefE.val
  ok : es.all (fun d => d.okB K) = true
abbrev AlE : Type := He.AlX × Bool × List FnE
def codesE (K : PySem.W.Frag) (es : List DefE) : List Addr := es.flatMap fun d => match K.lookup (d.at_ K) with
  | some o => (match o.data with
    | .func e => [e.code, e.defaults, e.kwdefaults].filterMap fun v => (match v with
      | .ref c => some c
      | _ => none)
    | _ => [])
  | none => []
def frE (n : Nat) (es : List DefE) (g : Addr → Option Obj) : PySem.W.Frag := (fun r : List Addr => He.frT g (r ++ codesE (He.frT g r) es)) (He.asD g n ++ [cStatics])
def obsE (n : Nat) (fa : List He.Fa) (fn : List He.DefD) (ts : List He.Tab) (tf : List He.Defn) (ex : PySem.W.Frag → Bool) (es : List DefE) (g : Addr → Option Obj) : AlE :=
  (fun K : PySem.W.Frag => (((He.obsT fa fn ts K, ex K && He.tabsB g tf K), (es.all fun d => d.okB K), es.map fun d => fnE K (d.at_ K)) : AlE)) (frE n es g)
def valE' (fn : List He.DefD) (ts : List He.Tab) (es : List DefE) (w : World) : AlE := (He.valX fn ts w, true, es.map DefE.val)
theorem saysE_of {n : Nat} {fa : List He.Fa} {fn : List He.DefD} {ts : List He.Tab} {tf : List He.Defn} {ex : PySem.W.Frag → Bool} {es : List DefE} {w : World} {h : Heap} (e : obsE n fa fn ts tf ex es h.get? = valE' fn ts es w) : SaysE fa fn ts tf ex es w h (frE n es h.get?) := by
  have e1 : He.obsT fa fn ts (frE n es h.get?) = He.valT fn ts w := congrArg (fun z : AlE => z.1.1) e
  have e2 : (ex (frE n es h.get?) && He.tabsB h.get? tf (frE n es h.get?)) = true := congrArg (fun z : AlE => z.1.2) e
  have e3 : (es.all fun d => d.okB (frE n es h.get?)) = true := congrArg (fun z : AlE => z.2.1) e
  have e4 : (es.map fun d => fnE (frE n es h.get?) (d.at_ (frE n es h.get?))) = es.map DefE.val := congrArg (fun z : AlE => z.2.2) e
  rw [Bool.and_eq_true] at e2
  have key : ∀ p ∈ tf, PySem.W.codeHdIn (frE n es h.get?) (He.cT (frE n es h.get?) p).1 (He.cT (frE n es h.get?) p).2 = true ∧ ∃ o, h.get? (He.cT (frE n es h.get?) p).2 = some o ∧ He.emptyTab o = true := fun p hp => by
    have z := List.all_eq_true.mp e2.2 p hp
    rw [Bool.and_eq_true] at z
    refine ⟨z.1, ?_⟩
    have z2 := z.2
    cases q : h.get? (He.cT (frE n es h.get?) p).2 with
    | none => rw [q] at z2; cases z2
    | some o => rw [q] at z2; exact ⟨o, rfl, z2⟩
  refine ⟨⟨e1, e2.1, fun p hp => (key p hp).1, fun p hp => ?_, fun p hp => ?_⟩, e4, e3⟩
  · obtain ⟨_, o, q, z⟩ := key p hp
    exact He.frT_none q z
  · obtain ⟨_, o, q, z⟩ := key p hp
    rw [q, He.emptyTab_eq z]
def hookE' (n : Nat) (fa : List He.Fa) (fn : List He.DefD) (ts : List He.Tab) (tf : List He.Defn) (ex : PySem.W.Frag → Bool) (es : List DefE) : PySem.W.Hook where
  α := AlE
  obs := fun s => obsE n fa fn ts tf ex es s.heap.get?
  val := fun w => valE' fn ts es w
  says := fun w h => ∃ K : PySem.W.Frag, K.In h ∧ SaysE fa fn ts tf ex es w h K
  of := fun _ _ e => ⟨_, He.frT_in, saysE_of e⟩
  keeps := fun _ _ _ ⟨K, hK, c⟩ k => ⟨K, PySem.W.Frag.In.keeps hK k, ⟨⟨c.x.t, c.x.more, c.x.hd, c.x.out, fun p hp => k _ _ (c.x.empty p hp)⟩, c.e, c.ok⟩⟩
theorem obsE_eq {n : Nat} {fa : List He.Fa} {fn : List He.DefD} {ts : List He.Tab} {tf : List He.Defn} {ex : PySem.W.Frag → Bool} {es : List DefE} {g : Addr → Option Obj} {s : Shared} (h : ∀ a, g a = s.heap.get? a) : obsE n fa fn ts tf ex es g = (hookE' n fa fn ts tf ex es).obs s := by
  obtain rfl : g = s.heap.get? := funext h
  rfl
def oexD (C : Addr) : Value → Data → List (Option Value) → Bool
  | .type "type", .cls cd, sl => (match cd.mro, sl with
    | .ref c :: bm, [_, _, _, _, some (.builtin n), _] => decide (c = C) && decide (n = "ValueError.__new__") && !cd.hasDel && cd.hasDict && PySem.HandSPX.refsVE bm
    | _, _ => false)
  | _, _, _ => false
def oexB (K : PySem.W.Frag) (C : Addr) : Bool := ((K.lookup C).any fun o => oexD C o.cls o.data o.slots.toList) && He.eqO (PySem.W.findIn K (.ref C) "__setattr__") (some (some (.builtin "object.__setattr__"))) && decide (PySem.W.subIn K (.ref C) (.type "BaseException") = some true) && decide (PySem.W.typeIn K (.ref C) = some (.type "type")) && PySem.W.keepIn K (.ref C)
def cellD (C : Addr) : Data → Bool
  | .cell (some (.ref c)) => decide (c = C)
  | _ => false
def strIs (z : Str) : Option Value → Bool
  | some (.str y _) => z == y
  | _ => false
def fileD (z : Str) : Data → Bool
  | .fields vs => strIs z vs[2]?
  | _ => false
def cellB (K : PySem.W.Frag) (cc C : Addr) : Bool := (K.lookup cc).any fun o => cellD C o.data
def fileB (K : PySem.W.Frag) (a : Addr) (z : Str) : Bool := (K.lookup a).any fun o => fileD z o.data
def cloOf (K : PySem.W.Frag) (f : Addr) : Option (Addr × Addr) := (K.lookup f).bind fun o => match o.data with
  | .func d => (match d.closure, d.code with | [q], .ref a => some (q.2, a) | _, _ => none)
  | _ => none
def excB (K : PySem.W.Frag) (x z : Str) (g : Option Str) : Bool := oexB K (He.ga K x) && xfB K (He.ga K x) && He.eqO (PySem.W.findIn K (.ref (He.ga K x)) "tag") (some none) && (g.all fun f => He.eqO (PySem.W.findIn K (.ref (He.ga K x)) f) (some none) && !(f == ("tag" : Str))) &&
  He.eqO (PySem.W.findIn K (.ref (He.ga K x)) "__init__") (some (some (.ref (He.ma K (He.ga K x) "__init__")))) && decide (PySem.W.typeIn K (.ref (He.ma K (He.ga K x) "__init__")) = some (.type "function")) &&
  ((cloOf K (He.ma K (He.ga K x) "__init__")).any fun q => cellB K q.1 (He.ga K x) && fileB K q.2 z) && He.eqO (PySem.W.ks_superIn K (He.ga K x) (He.ga K x) "__init__") (some (some (.builtin "ValueError.__init__"))) &&
  decide (PySem.W.mroIn K (He.ga K x) (.ref (He.ga K x)) = some true) && decide (PySem.W.subIn K (.ref (He.ga K x)) (.type "ValueError") = some true) && He.eqO (PySem.W.nsIn K cStatics "thirdparty.any") (some none)
structure FileOf (P : Program) (z : Str) : Prop where
  file : ((P.main.file : Str) == z) = true
  top : (P.main.scope.names.lookup ("super" : Str)).isSome = false
end Y
namespace Y
open PySem PySem.Spec PyProof.Rows L2
open PySem.W (ksFn ksEnv)
section
variable {K : PySem.W.Frag} {cl : Cls} {X : Cx} {Wx : WX}
theorem Xk.zero {P : Program} {w : World} {mg : Str → Option Value} {base : Heap} {N ps : List Str} {x qual : Str} {params : Arguments} {body : List Stmt} {scope : Scope} {f : Addr} {F' : FM} (h : ∀ ws st, F' ws st = .no)
    (F : ∃ fd, FunD K x qual params body scope [] [] f fd) (bd : ∀ (kV doc pm : Value) (an : Option Addr) (cdv ct : Value) (us : List Value), us.length = ps.length → bindArgs (PySem.W.fnOf x qual params body scope .none kV doc pm an cdv ct) ⟨us, []⟩ = pure (ps.zip us)) : Xk P w K mg base cl 0 f ps F' := by
  obtain ⟨fd, F⟩ := F
  refine ⟨⟨fd, ⟨fun vs H Q E q => ?_, fun A outer s H args us vs Q E hr he hb hv q => ?_⟩, F.bindsN bd⟩, F.kp⟩
  · obtain ⟨ρ0, G0, st0, ws, R, r, a⟩ := q
    rw [h] at a; exact a.elim
  · obtain ⟨ρ0, G0, st0, ws, R, r, a⟩ := q
    rw [h] at a; exact a.elim
structure Pk (P : Program) (w : World) (K : PySem.W.Frag) (mg : Str → Option Value) (base : Heap) (cl : Cls) (k : Nat) (C : Addr) (f : Str) (F : FM) : Prop where
  ex : ∃ p g fd ps, PropOf K C f p g ∧ FnOk P w K mg base CX0 k g fd ps (spF K cl F) ∧ Binds K fd ps []
end
def propGet (K : PySem.W.Frag) (C : Addr) (f : Str) : Addr × Addr := match PySem.W.findIn K (.ref C) f with
  | some (some (.ref p)) => (match PySem.W.recIn K p "property" with
    | some (.ref g :: _) => (p, g)
    | _ => (p, 0))
  | _ => (0, 0)
def propB (K : PySem.W.Frag) (C : Addr) (f : Str) : Bool := He.eqO (PySem.W.findIn K (.ref C) f) (some (some (.ref (propGet K C f).1))) && He.eqO (PySem.W.specialIn K (.ref (propGet K C f).1) "__get__") (some (some (.builtin "property.__get__"))) && decide (PySem.W.takesIn K (.ref (propGet K C f).1) = some true) &&
  ((PySem.W.recIn K (propGet K C f).1 "property").any fun l => match l with | .ref g :: _ => decide (g = (propGet K C f).2) | _ => false)
theorem Pk.of {P : Program} {w : World} {K : PySem.W.Frag} {mg : Str → Option Value} {base : Heap} {cl : Cls} {k : Nat} {C : Addr} {f : Str} {F : FM} {ps : List Str} (h : PropOf K C f (propGet K C f).1 (propGet K C f).2) (hF : Fk P w K mg base cl k (propGet K C f).2 ps F) : Pk P w K mg base cl k C f F := by
  obtain ⟨fd, h1, h2⟩ := hF.ex
  exact ⟨_, _, fd, ps, h, h1, h2⟩
end Y
namespace Y
open PySem PySem.Spec PyProof.Rows L2
inductive TyK (K : PySem.W.Frag) (C : Addr) (H : Hp) : V → Prop
  | non : TyK K C H .non
  | bl (b : Bool) : TyK K C H (.bl b)
  | int (i : Int) : TyK K C H (.int i)
  | str (z : Str) : TyK K C H (.str z)
  | tup {a : Addr} {xs : List V} (h : SqT K H a xs) : TyK K C H (.ref a)
  | lst {a : Addr} {xs : List V} (h : SqL K H a xs) : TyK K C H (.ref a)
  | own {a dx : Addr} {fs : List (Str × V)} (h : H a = some (.ins C dx fs)) : TyK K C H (.ref a)
def neB (K : PySem.W.Frag) (C : Addr) : Bool := He.eqO (PySem.W.findIn K (.ref C) "__ne__") (some (some (.builtin "object.__ne__"))) && decide (PySem.W.subIn K (.ref C) (.type "object") = some true)
structure NeC (K : PySem.W.Frag) (C : Addr) : Prop where
  ne : PySem.W.findIn K (.ref C) "__ne__" = some (some (.builtin "object.__ne__"))
  ob : PySem.W.subIn K (.ref C) (.type "object") = some true
end Y
namespace Y
open PySem PySem.Spec PyProof.Rows L2
structure Xk2 (Wk : FuncData → Prop) (P : Program) (w : World) (K : PySem.W.Frag) (mg : Str → Option Value) (base : Heap) (cl : Cls) (k : Nat) (f : Addr) (ps : List Str) (F : FM) : Prop where
  ex : ∃ fd, FnOk P w K mg base (L2.CX P w) k f fd ps (spF K cl F) ∧ L2.Binds K fd ps [] ∧ Wk fd
  kp : PySem.W.keepIn K (.ref f) = true
section
variable {K : PySem.W.Frag} {cl : Cls} {Wk : FuncData → Prop} {P : Program} {w : World} {mg : Str → Option Value} {base : Heap} {k : Nat} {f : Addr} {ps : List Str} {F : FM}
theorem Xk2.of {N : List Str} {x qual : Str} {params : Arguments} {body : List Stmt} {scope : Scope} {m : SMm}
    (F : ∃ fd, FunD K x qual params body scope [] [] f fd) (S : FnScope N ps scope) (bd : ∀ (kV doc pm : Value) (an : Option Addr) (cdv ct : Value) (us : List Value), us.length = ps.length → bindArgs (PySem.W.fnOf x qual params body scope .none kV doc pm an cdv ct) ⟨us, []⟩ = pure (ps.zip us))
    (hw : ∀ fd, FunD K x qual params body scope [] [] f fd → Wk fd)
    (hb : ∀ (cd : Value) (A : Around) (outer : List Env) (s : Shared) (H : Hp) (E : XK), GX K (cxE P w K mg base N qual scope f cd A outer s H E) → Takes (cxE P w K mg base N qual scope f cd A outer s H E) (WE E) → Room k (A.deeper (envOfC qual scope s.heap.objs.size f cd)) → SSs K cl (cxE P w K mg base N qual scope f cd A outer s H E) (WE E) m body) :
    Xk2 Wk P w K mg base cl (k + 1) f ps (runX ps.length N.length m) := by
  obtain ⟨fd, F⟩ := F
  exact ⟨⟨fd, fn_okX F S fun cd A outer s H E hr => hb cd A outer s H E (gx_ofE S hr) tk_ofE hr, F.bindsN bd, hw fd F⟩, F.kp⟩
end
section
variable {X : Cx}
structure CallC (K : PySem.W.Frag) (C f : Addr) : Prop where
  mt : Meth K C "__call__" f
  fi : PySem.W.fnIn K f = true
end
structure CIntC (K : PySem.W.Frag) (C : Addr) (f : Str) (i : Int) : Prop where
  rd : ClX.CRead K C (.type "type")
  at_ : ∃ t, PySem.W.findCls K (.ref C) (.type "type") f = some (.val (.int i t))
def cintB (K : PySem.W.Frag) (C : Addr) (f : Str) (i : Int) : Bool := PySem.W.readsIn K C (.type "type") && He.eqO (PySem.W.specialIn K (.ref C) "__getattribute__") (some (some (.builtin "type.__getattribute__"))) && (match PySem.W.findCls K (.ref C) (.type "type") f with
  | some (.val (.int j _)) => decide (j = i)
  | _ => false)
end Y
namespace Y
open PySem PySem.Spec PyProof.Rows L2
def isoB (K : PySem.W.Frag) (C : Addr) : Bool := (PySem.W.clsIn K C).isSome && PySem.W.typeIn K (.ref C) == some (.type "type")
structure InsC (K : PySem.W.Frag) (C : Addr) : Prop where
  cl : L2.Cls K C
  ha : PySem.W.findIn K (.ref C) "__class__" = some (some (.builtin "object.__class__"))
  hn : PySem.W.specialIn K (.builtin "object.__class__") "__get__" = some (some (.builtin "getset_descriptor.__get__"))
  ht : PySem.W.takesIn K (.builtin "object.__class__") = some true
  hm : PySem.W.mroIn K C (.type "object") = some true
def insB (K : PySem.W.Frag) (C : Addr) : Bool := He.eqO (PySem.W.findIn K (.ref C) "__class__") (some (some (.builtin "object.__class__"))) && He.eqO (PySem.W.specialIn K (.builtin "object.__class__") "__get__") (some (some (.builtin "getset_descriptor.__get__"))) &&
  decide (PySem.W.takesIn K (.builtin "object.__class__") = some true) && decide (PySem.W.mroIn K C (.type "object") = some true)
end Y
namespace Y
open PySem PySem.Spec PyProof.Rows L2
section
variable {K : PySem.W.Frag} {cl : Cls} {X : Cx} {Wx : WX} {E0 : En} {ρ ρ' : List Addr} {G G' : Hp} {σ : Sg} {τ : L2.St} {st : List Cell} {H : Hp} {D : Ends}
structure HdO (K : PySem.W.Frag) (cl : Cls) (E0 : En) (D : Addr) (ρ : List Addr) (G : Hp) (st : List Cell) (H : Hp) (Gh : Hp) (o : HO) : Prop where
  gD : Gh D = none
  gr : ∀ a u, Gh a = some u → E0.G0 a = some u ∨ E0.H0 a = none ∨ ∃ i : Nat, i < E0.n0 ∧ ρ[i]? = some a
  hn : ∀ i : Nat, i < E0.n0 → ρ[i]? ≠ some D
  l0 : E0.n0 ≤ ρ.length
  h0 : E0.H0 D = none
  R : (bs K cl (E0.hold Gh D o)).Rel ρ G st H
theorem HdO.start {Dd : Addr} {o : HO} (R : (bs K cl E0).Rel ρ G st H) (h : H Dd = none) (nt : NT o := by intro _ z; cases z) : HdO K cl E0 Dd ρ G st (upd H Dd o) G o :=
  ⟨R.gnone h, R.grow, fun i _ => R.apart h i, R.n0, R.fresh0 h, R.hold h nt⟩
section
variable {Dd : Addr} {Gh : Hp} {o o' : HO} {st' : List Cell} {H' : Hp}
theorem HdO.held (h : HdO K cl E0 Dd ρ G st H Gh o) : H Dd = some o ∧ G Dd = none ∧ ∀ i : Nat, ρ[i]? ≠ some Dd := Rel.held h.R h.hn h.gD
theorem HdO.next (h : HdO K cl E0 Dd ρ G st H Gh o) (p : ρ <+: ρ') (s : Sub G G') (R : (bs K cl (E0.hold Gh Dd o)).Rel ρ' G' st' H') : HdO K cl E0 Dd ρ' G' st' H' Gh o := by
  have keep : ∀ i : Nat, i < E0.n0 → ρ'[i]? = ρ[i]? := fun i hi => by
    obtain ⟨t, rfl⟩ := p
    exact List.getElem?_append_left (Nat.lt_of_lt_of_le hi h.l0)
  refine ⟨h.gD, fun a u e => ?_, fun i hi => by rw [keep i hi]; exact h.hn i hi, Nat.le_trans h.l0 p.length_le, h.h0, R⟩
  rcases h.gr a u e with q | q | ⟨i, hi, q⟩
  · exact .inl q
  · exact .inr (.inl q)
  · exact .inr (.inr ⟨i, hi, by rw [keep i hi]; exact q⟩)
theorem HdO.back (h : HdO K cl E0 Dd ρ G st H Gh o) : (bs K cl E0).Rel ρ G st H := Rel.unhold h.R h.h0 h.gr (List.prefix_refl _) h.l0
theorem HdO.put (h : HdO K cl E0 Dd ρ G st H Gh o) (po : PlO o) (nt : NT o' := by intro _ z; cases z) : HdO K cl E0 Dd ρ G st (upd H Dd o') G o' :=
  ⟨h.held.2.1, h.back.grow, h.hn, h.l0, h.h0, Rel.rehold h.R po h.hn h.gD nt⟩
theorem HdO.cell {c : Cell} (h : HdO K cl E0 Dd ρ G st H Gh o) (hc : c ≠ .dead) (x : CA K cl (ρ ++ [Dd]) G H Dd c) : (bs K cl E0).Rel (ρ ++ [Dd]) G (st ++ [c]) H :=
  Rel.adoptC h.back hc h.held.2.1 h.held.2.2 h.h0 x
theorem HdO.data (h : HdO K cl E0 Dd ρ G st H Gh o) (nt : NT o := by intro _ z; cases z) : (bs K cl E0).Rel ρ (upd G Dd o) st H :=
  Rel.adopt h.back h.held.1 h.held.2.1 h.held.2.2 h.h0 nt
end
end
end Y
namespace Y
open PySem PySem.W PySem.Calls PyProof.Rows HandSHeadRun
noncomputable section
def RunA (r : OpenRow) (q : Program) (M : Nat) (loose : List PySem.Str) (w : World) : Prop :=
  ∀ os : OsState, (endF (stepQ (denQ tabQ) r.prog w) M r.prog w os).map (fun s => (looksF r.prog (boot_heap w.params) s.abs, seenQ q loose (importedModules r.prog.main.body) (fun s => xlAt q [] s && recOk r.toRowW.records s) s.abs)) = some (true, openGood q loose)
def RunB (r : OpenRow) (H : Hook) (ob : SharedT → H.α) (M : Nat) (w : World) : Prop :=
  ∀ os : OsState, (endF (stepQ (denQ tabQ) r.prog w) M r.prog w os).map ob = some (H.val w)
theorem two3 {α β γ δ : Type} {x : Option α} {f : α → β} {g : α → γ} {h : α → δ} {a : β} {b : γ} {c : δ} (h1 : x.map (fun s => (f s, g s)) = some (a, b)) (h2 : x.map h = some c) : x.map (fun s => (f s, g s, h s)) = some (a, b, c) := by
  cases x with
  | none => cases h1
  | some s =>
    simp only [Option.map_some, Option.some.injEq, Prod.mk.injEq] at h1 h2 ⊢
    exact ⟨h1.1, h1.2, h2⟩
theorem run_two {r : OpenRow} {q : Program} {H : Hook} {ob : SharedT → H.α} {M : Nat} {loose : List PySem.Str} {w : World} (a : RunA r q M loose w) (b : RunB r H ob M w) : RunEq r q H ob M loose w := fun os => two3 (a os) (b os)
end
end Y
namespace Y
open PySem PySem.Spec PyProof.Rows L2
structure Dk (P : Program) (w : World) (K : PySem.W.Frag) (mg : Str → Option Value) (base : Heap) (cl : Cls) (k : Nat) (f : Addr) (ps : List Str) (F : FM) (dvs : List V) : Prop where
  ex : ∃ fd ds, FnOk P w K mg base (L2.CX P w) k f fd ps (spF K cl F) ∧ L2.Binds K fd ps ds ∧ Vals dvs ds
section
variable {K : PySem.W.Frag} {cl : Cls} {X : Cx} {Wx : WX} {E0 : En} {ρ ρ' : List Addr} {G G' : Hp} {σ : Sg} {τ : L2.St} {st : List Cell} {H : Hp} {D : Ends}
variable {f : Addr} {fd : FuncData} {ps : List Str} {F : FM} {a : AM} {k : Nat} {x m : Str} {p pos apos : Pos} {e : Expr} {es : List Expr}
theorem Xk.dk {P : Program} {w : World} {mg : Str → Option Value} {base : Heap} (h : Xk P w K mg base cl k f ps F) : Dk P w K mg base cl k f ps F [] := by
  obtain ⟨fd, h1, h2⟩ := h.ex
  exact ⟨fd, [], h1, h2, .nil⟩
end
end Y
namespace Y
open PySem PySem.Spec PyProof.Rows L2
structure ClsM (K : PySem.W.Frag) (C : Addr) (m : Str) : Prop where
  rd : ClX.CRead K C (.type "type")
  cm : ClX.CMet K C (.type "type") m (He.ma K C m) (He5.wf K C "classmethod" m)
end Y
namespace Y
open PySem PySem.Spec PyProof.Rows L2
structure Nk (P : Program) (w : World) (K : PySem.W.Frag) (mg : Str → Option Value) (base : Heap) (cl : Cls) (k : Nat) (f : Addr) (ps : List Str) (F : FM) (np : Nat) (ks : List Str) (ix : List Nat) : Prop where
  ex : ∃ fd, FnOk P w K mg base (L2.CX P w) k f fd ps (spF K cl F) ∧ KBn K fd ps (np + 1) ks (gI ix) (gI ix)
end Y
namespace Y
open PySem PySem.Spec PyProof.Rows L2
structure XkW (Wk : FuncData → Prop) (P : Program) (w : World) (K : PySem.W.Frag) (mg : Str → Option Value) (base : Heap) (cl : Cls) (k : Nat) (f : Addr) (ps : List Str) (F : FM) : Prop where
  ex : ∃ fd, FnOk P w K mg base (L2.CX P w) k f fd ps (spF K cl F) ∧ Wk fd
  kp : PySem.W.keepIn K (.ref f) = true
section
variable {K : PySem.W.Frag} {cl : Cls} {Wk : FuncData → Prop} {P : Program} {w : World} {mg : Str → Option Value} {base : Heap} {k : Nat} {f : Addr} {ps : List Str} {F : FM} {dvs : List V} {kws : List (Str × V)}
theorem XkW.of {N : List Str} {x qual : Str} {params : Arguments} {body : List Stmt} {scope : Scope} {m : SMm}
    (F : ∃ fd, FunD K x qual params body scope dvs kws f fd) (S : FnScope N ps scope) (hw : ∀ fd, FunD K x qual params body scope dvs kws f fd → Wk fd)
    (hb : ∀ (cd : Value) (A : Around) (outer : List Env) (s : Shared) (H : Hp) (E : XK), GX K (cxE P w K mg base N qual scope f cd A outer s H E) → Takes (cxE P w K mg base N qual scope f cd A outer s H E) (WE E) → Room k (A.deeper (envOfC qual scope s.heap.objs.size f cd)) → SSs K cl (cxE P w K mg base N qual scope f cd A outer s H E) (WE E) m body) :
    XkW Wk P w K mg base cl (k + 1) f ps (runX ps.length N.length m) := by
  obtain ⟨fd, F⟩ := F
  exact ⟨⟨fd, fn_okX F S fun cd A outer s H E hr => hb cd A outer s H E (gx_ofE S hr) tk_ofE hr, hw fd F⟩, F.kp⟩
theorem XkW.dk (h : XkW Wk P w K mg base cl k f ps F) (hw : ∀ fd, Wk fd → ∃ ds, Vals dvs ds ∧ L2.Binds K fd ps ds) : Dk P w K mg base cl k f ps F dvs := by
  obtain ⟨fd, h1, h2⟩ := h.ex
  obtain ⟨ds, h3, h4⟩ := hw fd h2
  exact ⟨fd, ds, h1, h4, h3⟩
theorem XkW.nk {np : Nat} {ks : List Str} {ix : List Nat} (h : XkW Wk P w K mg base cl k f ps F) (hw : ∀ fd, Wk fd → KBn K fd ps (np + 1) ks (gI ix) (gI ix)) : Nk P w K mg base cl k f ps F np ks ix := by
  obtain ⟨fd, h1, h2⟩ := h.ex
  exact ⟨fd, h1, hw fd h2⟩
end
end Y
namespace Y
open PySem PySem.Spec PyProof.Rows L2
section
variable {α β γ δ : Type}
def stG (xs : List (NestedKey × α × β)) (k : NestedKey) (a : α) (v : β) : List (NestedKey × α × β) :=
  if (xs.any fun x => decide (x.1 = k)) = true then xs.map (fun x => if x.1 = k then (x.1, x.2.1, v) else x) else xs ++ [(k, a, v)]
def stAll (xs ps : List (NestedKey × α × β)) : List (NestedKey × α × β) := ps.foldl (fun acc p => stG acc p.1 p.2.1 p.2.2) xs
def Ent (r : α → γ → Prop) (t : β → δ → Prop) (x : NestedKey × α × β) (y : NestedKey × γ × δ) : Prop := x.1 = y.1 ∧ r x.2.1 y.2.1 ∧ t x.2.2 y.2.2
variable {r : α → γ → Prop} {t : β → δ → Prop}
theorem Ent.any {k : NestedKey} : ∀ {xs : List (NestedKey × α × β)} {ys : List (NestedKey × γ × δ)}, Paired (Ent r t) xs ys → (xs.any fun x => decide (x.1 = k)) = ys.any fun x => decide (x.1 = k)
  | _, _, .nil => rfl
  | _, _, .cons h q => by rw [List.any_cons, List.any_cons, h.1, Ent.any q]
theorem Ent.put {k : NestedKey} {v : β} {u : δ} (hv : t v u) : ∀ {xs : List (NestedKey × α × β)} {ys : List (NestedKey × γ × δ)}, Paired (Ent r t) xs ys →
    Paired (Ent r t) (xs.map fun x => if x.1 = k then (x.1, x.2.1, v) else x) (ys.map fun x => if x.1 = k then (x.1, x.2.1, u) else x)
  | _, _, .nil => .nil
  | x :: _, y :: _, .cons h q => by
    refine .cons ?_ (Ent.put hv q)
    show Ent r t (if x.1 = k then (x.1, x.2.1, v) else x) (if y.1 = k then (y.1, y.2.1, u) else y)
    by_cases e : x.1 = k
    · rw [if_pos e, if_pos (h.1 ▸ e)]
      exact ⟨h.1, h.2.1, hv⟩
    · rw [if_neg e, if_neg (h.1 ▸ e)]
      exact h
theorem Paired.snoc {R : α → γ → Prop} {a : α} {c : γ} (h : R a c) : ∀ {xs : List α} {ys : List γ}, Paired R xs ys → Paired R (xs ++ [a]) (ys ++ [c])
  | _, _, .nil => .cons h .nil
  | _, _, .cons h2 q => .cons h2 (Paired.snoc h q)
theorem Ent.st {k : NestedKey} {a : α} {c : γ} {v : β} {u : δ} (ha : r a c) (hv : t v u) {xs : List (NestedKey × α × β)} {ys : List (NestedKey × γ × δ)} (h : Paired (Ent r t) xs ys) : Paired (Ent r t) (stG xs k a v) (stG ys k c u) := by
  unfold stG
  rw [Ent.any h]
  split
  · exact Ent.put hv h
  · exact Paired.snoc ⟨rfl, ha, hv⟩ h
theorem Ent.all : ∀ {ps : List (NestedKey × α × β)} {qs : List (NestedKey × γ × δ)} {xs : List (NestedKey × α × β)} {ys : List (NestedKey × γ × δ)}, Paired (Ent r t) ps qs → Paired (Ent r t) xs ys → Paired (Ent r t) (stAll xs ps) (stAll ys qs)
  | _, _, _, _, .nil, h => h
  | p :: ps, q :: qs, xs, ys, .cons h q', hx => by
    show Paired _ (stAll (stG xs p.1 p.2.1 p.2.2) ps) (stAll (stG ys q.1 q.2.1 q.2.2) qs)
    rw [h.1]
    exact Ent.all q' (Ent.st h.2.1 h.2.2 hx)
end
mutual
inductive NK (K : PySem.W.Frag) (H : Hp) : NestedKey → V → Prop
  | non : NK K H .none .non
  | int (i : Int) : NK K H (.num i) (.int i)
  | text (x : Str) : NK K H (.text x) (.str x)
  | tup {a : Addr} {vs : List V} {ks : List NestedKey} : SqT K H a vs → NKs K H ks vs → NK K H (.tup ks) (.ref a)
inductive NKs (K : PySem.W.Frag) (H : Hp) : List NestedKey → List V → Prop
  | nil : NKs K H [] []
  | cons {k : NestedKey} {v : V} {ks : List NestedKey} {vs : List V} : NK K H k v → NKs K H ks vs → NKs K H (k :: ks) (v :: vs)
end
section
variable {K : PySem.W.Frag} {cl : Cls} {X : Cx} {Wx : WX} {E0 : En} {ρ : List Addr} {G : Hp} {σ : Sg} {st : List Cell} {τ : L2.St} {H : Hp}
mutual
theorem NK.of (s : Sub G H) : ∀ {x : P} {v : V} {k : NestedKey}, RP K cl G x v → nkP x = some k → NK K H k v
  | .non, _, _, .non, e => by rw [nkP] at e; cases e; exact .non
  | .int i, _, _, .int _, e => by rw [nkP] at e; cases e; exact .int i
  | .str z, _, _, .str _, e => by rw [nkP] at e; cases e; exact .text z
  | .tup l, _, k, .tup h q, e => by
    rw [nkP] at e
    obtain ⟨ks, e1, rfl⟩ := Option.map_eq_some_iff.mp e
    exact .tup (s.sqT h) (NKs.of s q e1)
theorem NKs.of (s : Sub G H) : ∀ {l : List P} {vs : List V} {ks : List NestedKey}, RPs K cl G l vs → nkPs l = some ks → NKs K H ks vs
  | [], _, _, .nil, e => by rw [nkPs] at e; cases e; exact .nil
  | x :: l, _, ks, .cons r q, e => by
    rw [nkPs] at e
    split at e
    · rename_i k ks' e1 e2
      cases e
      exact .cons (NK.of s r e1) (NKs.of s q e2)
    · cases e
end
end
section
variable {X : Cx} {pins : List (Addr × Obj)} {σ : L2.St} {H : Hp} {s : Shared}
mutual
theorem NK.is (I : Inv X pins σ H s) : ∀ {k : NestedKey} {v : V} {u : Value}, NK X.K H k v → RelV v u → NestedIs s.heap k u
  | _, _, _, .non, r => by cases (show _ = Value.none from r); exact .none
  | _, _, _, .int i, r => by obtain ⟨t, rfl⟩ := (show ∃ t, _ = Value.int i t from r); exact .int i t
  | _, _, _, .text x, r => by obtain ⟨t, rfl⟩ := (show ∃ t, _ = Value.str x t from r); exact .text x t
  | _, _, _, .tup (a := a) h q, r => by
    cases (show _ = Value.ref a from r)
    obtain ⟨its, rv, ⟨o, ho, hc, n, hd⟩, hz⟩ := I.tuple h
    exact .tup ho hc hd (NKs.is I q rv)
theorem NKs.is (I : Inv X pins σ H s) : ∀ {ks : List NestedKey} {vs : List V} {us : List Value}, NKs X.K H ks vs → Vals vs us → NestedAll s.heap ks us
  | _, _, _, .nil, .nil => .nil
  | _, _, _, .cons h q, .cons r rv => .cons (NK.is I h r) (NKs.is I q rv)
end
end
def z3 : List NestedKey → List Addr → List Value → List (NestedKey × Addr × Value)
  | k :: ks, a :: as, v :: vs => (k, a, v) :: z3 ks as vs
  | _, _, _ => []
section
variable {K : PySem.W.Frag} {cl : Cls} {X : Cx} {Wx : WX} {E0 : En} {ρ : List Addr} {G : Hp} {σ : Sg} {st : List Cell} {τ : L2.St} {H : Hp} {w : World}
def EntP (K : PySem.W.Frag) (cl : Cls) (G : Hp) : NestedKey × P × P → NestedKey × Addr × V → Prop := Ent (fun x a => RP K cl G x (.ref a)) (fun y v => RP K cl G y v)
variable {a b : EM} {pa pb : Expr} {pos : Pos}
end
end Y
namespace Y
open PySem PySem.Spec PyProof.Rows L2
section
variable {K : PySem.W.Frag} {cl : Cls} {X : Cx} {Wx : WX} {E0 : En} {ρ : List Addr} {G G' : Hp} {σ : Sg} {st : List Cell} {τ : L2.St} {H : Hp} {w wo : World}
theorem EntP.mono (s : Sub G G') : ∀ {pp : List (NestedKey × P × P)} {es : List (NestedKey × Addr × V)}, Paired (EntP K cl G) pp es → Paired (EntP K cl G') pp es
  | _, _, .nil => .nil
  | _, _, .cons h q => .cons ⟨h.1, RP.mono s h.2.1, RP.mono s h.2.2⟩ (EntP.mono s q)
end
end Y
namespace Y
open PySem PySem.Spec PyProof.Rows L2 GenW
inductive Pjk where
  | id | fst
def Pjk.rel (K : PySem.W.Frag) : Pjk → V → V → Hp → Prop
  | .id, x, z, _ => z = x
  | .fst, x, z, H => ∃ T u, x = .ref T ∧ SqT K H T [z, u]
structure Slp (D : Addr) (C : List Addr) (z : V) (s s' : Shared) : Prop where
  os : s'.os = s.os
  bare : AllBare s'.gens
  keep : ∀ b o, b ≠ D → b ∉ C → s.heap.get? b = some o → s'.heap.get? b = some o
  own : ∀ acc c, s.heap.get? D = some (lstObj acc c) → ∃ u c', RelV z u ∧ s'.heap.get? D = some (lstObj (acc.push u) c')
  oth : ∀ b ∈ C, ∃ o, s'.heap.get? b = some o ∧ ∀ v, o.data ≠ .cell v
def At0 (C : List Addr) (s₀ : Shared) (cp : List (Addr × Obj)) : Prop := cp.map (·.1) = C ∧ ∀ p ∈ cp, s₀.heap.get? p.1 = some p.2
structure Aprt (X : Cx) (D : Addr) (C : List Addr) (ip : List (Addr × Obj)) : Prop where
  ok : ∀ b, (b = D ∨ b ∈ C) → X.s_0.heap.objs.size ≤ b ∧ b ≠ X.env.locals ∧ (∀ x c, X.env.cells.lookup x = some c → c ≠ b) ∧ (∀ p ∈ X.pn, p.1 ≠ b) ∧ ∀ p ∈ ip, p.1 ≠ b
  nd : D ∉ C
def JI (X : Cx) (D : Addr) (C : List Addr) (s₀ : Shared) (ip : List (Addr × Obj)) (ys : List V) (σ : L2.St) (H : Hp) (s : Shared) : Prop :=
  ∃ acc c cp, Vals ys acc.toList ∧ At0 C s₀ cp ∧ Inv X ((D, lstObj acc c) :: (cp ++ ip)) σ H s
section
variable {X : Cx} {D : Addr} {C : List Addr} {s₀ s s' : Shared} {ip : List (Addr × Obj)} {ys : List V} {σ : L2.St} {H : Hp} {z : V}
theorem JI.facts (h : JI X D C s₀ ip ys σ H s) : H D = none ∧ D ≠ X.env.locals ∧ D ∉ X.fs ∧ (∃ acc c, Vals ys acc.toList ∧ s.heap.get? D = some (lstObj acc c)) ∧
    ∀ b ∈ C, H b = none ∧ b ≠ X.env.locals ∧ b ∉ X.fs ∧ ∃ o, s₀.heap.get? b = some o ∧ s.heap.get? b = some o := by
  obtain ⟨acc, c, cp, r, ⟨e1, e2⟩, I⟩ := h
  have q := I.pin (D, lstObj acc c) (List.mem_append_right _ List.mem_cons_self)
  refine ⟨q.2.1, q.2.2.1, q.2.2.2.1, ⟨acc, c, r, q.1⟩, fun b hb => ?_⟩
  rw [← e1] at hb
  obtain ⟨p, mp, rfl⟩ := List.mem_map.mp hb
  have q := I.pin p (List.mem_append_right _ (List.mem_cons_of_mem _ (List.mem_append_left _ mp)))
  exact ⟨q.2.1, q.2.2.1, q.2.2.2.1, p.2, e2 p mp, q.1⟩
theorem JI.bare' (h : JI X D C s₀ ip ys σ H s) : ∃ pins, Inv X pins σ H s := by
  obtain ⟨acc, c, cp, _, _, I⟩ := h
  exact ⟨_, I⟩
theorem pick_at0 (C : List Addr) (s' : Shared) (h : ∀ b ∈ C, ∃ o, s'.heap.get? b = some o ∧ ∀ v, o.data ≠ .cell v) : ∃ cp, At0 C s' cp ∧ ∀ p ∈ cp, ∀ v, p.2.data ≠ .cell v := by
  induction C with
  | nil => exact ⟨[], ⟨rfl, fun p m => nomatch m⟩, fun p m => nomatch m⟩
  | cons b C ih =>
    obtain ⟨cp, ⟨e1, e2⟩, e3⟩ := ih fun b m => h b (List.mem_cons_of_mem _ m)
    obtain ⟨o, eo, no⟩ := h b List.mem_cons_self
    refine ⟨(b, o) :: cp, ⟨by rw [List.map_cons, e1], fun p m => ?_⟩, fun p m => ?_⟩
    · rcases List.mem_cons.mp m with rfl | m
      · exact eo
      · exact e2 p m
    · rcases List.mem_cons.mp m with rfl | m
      · exact no
      · exact e3 p m
end
def JY (X : Cx) (D : Addr) (C : List Addr) (pk : Pjk) : Protocol := fun n s₀ v s kap =>
  ∃ ys x z ip σ H, n + 1 + ys.length = sizeLine ∧ RelV x v ∧ pk.rel X.K x z H ∧ JI X D C s₀ ip ys σ H s ∧ ∀ s', Slp D C z s s' → kap (.send .none) s'
def JR (X : Cx) (D : Addr) (C : List Addr) (Q : List V → VK) (F : Value → Shared → Prop) : GenEnd := fun n s₀ r s => match r with
  | .ok (.ret u) => ∃ ys v ip σ H, n + ys.length = sizeLine ∧ JI X D C s₀ ip ys σ H s ∧ RelV v u ∧ Q ys v H
  | .ok _ => False
  | .error e => F e s
def JSP (X : Cx) (D : Addr) (C : List Addr) (s₀ : Shared) (ip : List (Addr × Obj)) (E : GEnds) (ys : List V) (f : Flow) (s : Shared) : Prop :=
  match f with
  | .next => ∃ σ H, JI X D C s₀ ip ys σ H s ∧ E.nx ys σ H
  | .brk => ∃ σ H, JI X D C s₀ ip ys σ H s ∧ E.bk ys σ H
  | .cont => ∃ σ H, JI X D C s₀ ip ys σ H s ∧ E.ct ys σ H
  | .ret u => ∃ v σ H, JI X D C s₀ ip ys σ H s ∧ RelV v u ∧ E.rt ys v H
structure JC (X : Cx) (D : Addr) (C : List Addr) (ip : List (Addr × Obj)) (A : Around) (c : Code) (fs : List Frame) (gd : Bool → Bool) : Prop where
  apart : Aprt X D C ip
  over : A.over c fs = X.A
  split : splitAtGen fs = none
  guard : fs.any Frame.guarded = false
  gd : gd false = false
structure JK (X : Cx) (D : Addr) (C : List Addr) (pk : Pjk) (ip : List (Addr × Obj)) (A : Around) (R : GenEnd) (c : Code) (fs : List Frame) (k : Flow → Sem PySem.Fin) (j : Value → Sem PySem.Fin) (E : GEnds) : Prop where
  ok : ∀ (n : Nat) (ys : List V) (s₀ s : Shared) (f : Flow), n + ys.length = sizeLine → JSP X D C s₀ ip E ys f s → Seg (model X.prog X.w) A R (JY X D C pk) n s₀ c (k f) fs s
  exc : ∀ (n : Nat) (s₀ : Shared) (e : Value) (s : Shared), X.xe e s → Seg (model X.prog X.w) A R (JY X D C pk) n s₀ c (j e) fs s
def TJ (X : Cx) (pk : Pjk) (st : Stmt) : TGn := fun E ys σ H => ∀ (D : Addr) (C : List Addr) (ip : List (Addr × Obj)) (A : Around) (R : GenEnd) (n : Nat) (s₀ s : Shared) (c : Code) (fs : List Frame) (k : Flow → Sem PySem.Fin) (j : Value → Sem PySem.Fin) (gd : Bool → Bool) (lv : List Value → List Value),
  JC X D C ip A c fs gd → n + ys.length = sizeLine → JK X D C pk ip A R c fs k j E → JI X D C s₀ ip ys σ H s → Seg (model X.prog X.w) A R (JY X D C pk) n s₀ c ((exec st X.env).wrap k j gd lv) fs s
def TJs (X : Cx) (pk : Pjk) (st : List Stmt) : TGn := fun E ys σ H => ∀ (D : Addr) (C : List Addr) (ip : List (Addr × Obj)) (A : Around) (R : GenEnd) (n : Nat) (s₀ s : Shared) (c : Code) (fs : List Frame) (k : Flow → Sem PySem.Fin) (j : Value → Sem PySem.Fin) (gd : Bool → Bool) (lv : List Value → List Value),
  JC X D C ip A c fs gd → n + ys.length = sizeLine → JK X D C pk ip A R c fs k j E → JI X D C s₀ ip ys σ H s → Seg (model X.prog X.w) A R (JY X D C pk) n s₀ c ((execs st X.env).wrap k j gd lv) fs s
end Y
namespace Y
open PySem PySem.Spec PyProof.Rows L2 GenW
def Pjk.atH : Pjk → Value → V → Heap → Prop
  | .id, v, z, _ => RelV z v
  | .fst, v, z, h => ∃ T u1 u2, v = .ref T ∧ IsTup h T #[u1, u2] ∧ RelV z u1
theorem Pjk.hp {X : Cx} {pins : List (Addr × Obj)} {σ : L2.St} {H : Hp} {s : Shared} (I : Inv X pins σ H s) {pk : Pjk} {x z : V} {v : Value} (r : RelV x v) (h : pk.rel X.K x z H) : pk.atH v z s.heap := by
  cases pk with
  | id =>
    obtain rfl : z = x := h
    exact r
  | fst =>
    obtain ⟨T, u, rfl, q⟩ := h
    obtain ⟨its, rv, ht, _⟩ := I.tuple q
    obtain rfl : v = .ref T := r
    cases rv with
    | cons r1 rs =>
      cases rs with
      | cons r2 rs =>
        cases rs
        exact ⟨T, _, _, rfl, ht, r1⟩
abbrev SpJ := Pjk → List V → Hp → (List V → Hp → Prop) → XK → Prop
def EndJ (P : Program) (w : World) (outer : List Env) (H : Hp) (s : Shared) (D : Addr) (C : List Addr) (a : Addr) (g : Nat) (Q : List V → Hp → Prop) (E : XK) : GenEnd := fun n s₀ r s1 =>
  ((r = .ok (.ret .none) ∨ r = .ok .next) ∧ ∃ H' ys acc c, s1.os = s.os ∧ AllBare s1.gens ∧ Un (frs outer) [] H H' s.heap s1.heap ∧ HOk P w H' s1.heap ∧ H' D = none ∧
    (∀ b ∈ C, H' b = none ∧ ∃ o, s₀.heap.get? b = some o ∧ s1.heap.get? b = some o) ∧ s1.heap.get? D = some (lstObj acc c) ∧ Vals ys acc.toList ∧ ys.length ≤ sizeLine ∧ Q ys H') ∨
  ∃ e, r = .error e ∧ CX P w outer H s E e s1 ∧ s1.heap.IsGen a g
def ItemJ (s : Shared) (D : Addr) (C : List Addr) (a : Addr) (g : Nat) (pk : Pjk) : Protocol := fun n s₀ v s1 kap =>
  s1.os = s.os ∧ AllBare s1.gens ∧ s1.heap.NoLimit ∧ s1.heap.IsGen a g ∧ (∃ (acc : Array Value) (c : Nat), s1.heap.get? D = some (lstObj acc c) ∧ n + 1 + acc.size = sizeLine) ∧
    (∀ b ∈ C, ∃ o, s₀.heap.get? b = some o ∧ s1.heap.get? b = some o) ∧
    ∃ z, pk.atH v z s1.heap ∧ ∀ s', Slp D C z s1 s' → kap (.send .none) s'
def MadeJ (P : Program) (w : World) (k : Nat) (outer : List Env) (H : Hp) (s : Shared) (pk : Pjk) (Q : List V → Hp → Prop) (E : XK) (u : Value) (s' : Shared) : Prop :=
  ∃ (a : Addr) (g : Nat) (c : Code), u = .ref a ∧ s.heap.objs.size ≤ a ∧ a < s'.heap.objs.size ∧ s'.heap.IsGen a g ∧ s'.gens[g]? = some (.fresh c) ∧ s'.os = s.os ∧ AllBare s'.gens ∧ s'.heap.NoLimit ∧ (∀ b o, s.heap.get? b = some o → s'.heap.get? b = some o) ∧
    ∀ (A : Around) (D : Addr) (C : List Addr) (s2 : Shared), Room k A → A.frames = some outer → (∀ b, (b = D ∨ b ∈ C) → s'.heap.objs.size ≤ b) → D ∉ C → (∀ b o, s'.heap.get? b = some o → s2.heap.get? b = some o) → (∃ c, s2.heap.get? D = some (lstObj #[] c)) →
      (∀ b ∈ C, ∃ o, s2.heap.get? b = some o ∧ ∀ v, o.data ≠ .cell v) → s2.os = s.os → AllBare s2.gens → Seg (model P w) A (EndJ P w outer H s D C a g Q E) (ItemJ s D C a g pk) sizeLine s2 c ((model P w).den c) [] s2
structure GenD (P : Program) (w : World) (K : PySem.W.Frag) (mg : Str → Option Value) (base : Heap) (k : Nat) (f : Addr) (fd : FuncData) (ps : List Str) (sp : SpJ) : Prop where
  len : ∀ pk vs H Q E, sp pk vs H Q E → vs.length = ps.length
  run : ∀ (A : Around) (outer : List Env) (s : Shared) (H : Hp) (args : Args) (us : List Value) (vs : List V) (pk : Pjk) (Q : List V → Hp → Prop) (E : XK), Room k A → Env0 P w K mg base A outer s H → BindsTo s fd args (ps.zip us) → Vals vs us → sp pk vs H Q E →
    codeAny (model P w) A (.call (.ref f) args) (fun r s' => match r with | .ok (.ret u) => MadeJ P w k outer H s pk Q E u s' | _ => False) s
theorem genD_of {P : Program} {w : World} {K : PySem.W.Frag} {mg : Str → Option Value} {base : Heap} {k : Nat} {f : Addr} {name qual : Str} {params : Arguments} {body : List Stmt} {scope : Scope} {dV kV doc pm cdv ct oc : Value} {an od : Option Addr}
    {osl : Array (Option Value)} {N ps : List Str} {sp : SpJ} (lk : K.lookup f = some ⟨oc, od, .func (PySem.W.fnOf name qual params body scope dV kV doc pm an cdv ct), osl⟩) (hcd : PySem.W.codeIn K cdv qual = true) (S : GScope N ps scope)
    (len : ∀ pk vs H Q E, sp pk vs H Q E → vs.length = ps.length)
    (hbody : ∀ (A : Around) (outer : List Env) (s : Shared) (H : Hp) (vs : List V) (pk : Pjk) (Q : List V → Hp → Prop) (E : XK) (pn : List (Addr × Obj)), Room k (A.deeper (envOfC qual scope s.heap.objs.size f cdv)) → sp pk vs H Q E →
      TJs (gcxOf P w K mg base N qual scope f cdv A outer s H E pn) pk body { nx := fun ys _ H' => Q ys H', rt := fun ys v H' => v = .non ∧ Q ys H' } [] (L2.start N vs) H) :
    GenD P w K mg base (k + 1) f (PySem.W.fnOf name qual params body scope dV kV doc pm an cdv ct) ps sp := by
  refine ⟨len, fun A outer s H args us vs pk Q E hr e0 hb r hsp => ?_⟩
  have hl := len _ _ _ _ _ hsp
  have KX : K.In s.heap := e0.mod.kin.keeps fun b o e => (e0.bs b o e).1
  have lim : s.heap.NoLimit := e0.mod.nolimit.keeps fun b o e => (e0.bs b o e).1
  have kinds : ∀ y ∈ ps.zip us, scope.names.lookup y.1 = some .local ∨ (scope.names.lookup y.1 = some .cell ∧ ((cellsFrom (s.heap.objs.size + 1) scope.names []).lookup y.1).isSome = true) := fun ⟨n, v⟩ hy =>
    (S.par n (List.of_mem_zip hy).1).elim .inl fun q => .inr ⟨q, PySem.W.cellsFrom_some _ _ _ (.inl q)⟩
  refine codeAny_call_generator hr.depth (KX _ _ lk) rfl S.co S.gen rfl (PySem.W.codeRec_of KX hcd) (hb _ _ _ _ ?_)
  refine wpAny_newFunctionEnv_cells S.kind kinds fun env he s1 x => ?_
  subst he
  have lim1 : s1.heap.NoLimit := lim.keeps x.toInCall.keep
  refine ⟨lim1, ?_⟩
  obtain ⟨h1, tk, es1, _⟩ := x.done
  have os1 : s1.os = s.os := by rw [es1]
  have gen1 : s1.gens = s.gens := by rw [es1]
  have lt1 : s.heap.objs.size < s1.heap.objs.size := x.toInCall.ns.lt
  have kp1 : ∀ b o, s.heap.get? b = some o → s1.heap.get? b = some o := x.toInCall.keep
  generalize hL : s1.heap.objs.size = L at lt1
  have young : ∀ b, L ≤ b → H b = none ∧ b ≠ s.heap.objs.size ∧ b ∉ frs outer ∧ s.heap.objs.size ≤ b ∧ ∀ y c, (cellsFrom (s.heap.objs.size + 1) scope.names []).lookup y = some c → c ≠ b := fun b hb => by
    have I1 : Inv (gcxOf P w K mg base N qual scope f cdv A outer s H E []) [] (L2.start N vs) H s1 := inv_startG S hr.hd e0 hl r x
    refine ⟨I1.hok.fresh (by omega), Nat.ne_of_gt (Nat.lt_of_lt_of_le lt1 hb), I1.nofs (by omega), by omega, fun y c e z => ?_⟩
    obtain ⟨v, ob, ho, _⟩ := I1.cell y c e
    have q := Heap.lt_size ho
    rw [hL, z] at q
    exact absurd (Nat.lt_of_lt_of_le q hb) (Nat.lt_irrefl _)
  have main : ∀ (go : Obj) (nm qn : Value) (tk2 : Nat), go.cls = .type "generator" → go.data = .fields #[.int s1.gens.size 0, nm, qn] → go.slots = #[] → (∀ h : Heap, (h.push go).get? h.objs.size = some go) →
      MadeJ P w (k + 1) outer H s pk Q E (.ref L) { s1 with gens := s1.gens.push (.fresh (.func body (envOfC qual scope s.heap.objs.size f cdv))), toks := tk2, heap := s1.heap.push go } := by
    intro go nm qn tk2 hgc hgd0 hgs hgp
    have isg : ∀ h : Heap, h.get? L = some go → h.IsGen L s1.gens.size := fun h e => ⟨go, nm, qn, e, hgc, hgd0, hgs⟩
    have pushed : (s1.heap.push go).get? L = some go := by rw [← hL]; exact hgp _
    have psz : (s1.heap.push go).objs.size = L + 1 := by rw [Heap.size_push, hL]
    refine ⟨L, s1.gens.size, _, rfl, by omega, ?_, isg _ pushed, Array.getElem?_push_size .., os1, ?_, lim1.keeps fun b o e => Heap.get?_push_of_some _ e, fun b o e => Heap.get?_push_of_some _ (kp1 b o e), ?_⟩
    · show L < (s1.heap.push _).objs.size
      omega
    · exact AllBare.push (by rw [gen1]; exact e0.bare) rfl
    intro Aw D C s2 hrw hfr hDC hnd hk2 hDo hCo hos hba
    have e0w : Env0 P w K mg base Aw outer s H := ⟨hfr, e0.mod, e0.bs, e0.bsz, e0.funs, e0.frf, e0.hok, e0.bare⟩
    have ht := hbody Aw outer s H vs pk Q E [(L, go)] (hrw.deeper _) hsp
    generalize hX : gcxOf P w K mg base N qual scope f cdv Aw outer s H E [(L, go)] = X at ht
    have I1 : Inv (gcxOf P w K mg base N qual scope f cdv Aw outer s H E []) [] (L2.start N vs) H s1 := inv_startG S hrw.hd e0w hl r x
    have kp2 : ∀ b o, s1.heap.get? b = some o → s2.heap.get? b = some o := fun b o e => hk2 b o (Heap.get?_push_of_some _ e)
    have I2 : Inv (gcxOf P w K mg base N qual scope f cdv Aw outer s H E []) [] (L2.start N vs) H s2 :=
      I1.call' (ch := []) (hos.trans os1.symm) (Un.kept kp2) (I1.hok.kept kp2) hba fun b z => by simp at z
    have big : ∀ b, (b = D ∨ b ∈ C) → L < b := fun b hb => by
      have := hDC b hb
      have this : (s1.heap.push go).objs.size ≤ b := this
      omega
    obtain ⟨cD, heD⟩ := hDo
    have eL : s2.heap.get? L = some go := hk2 L go pushed
    have nogo : ∀ v, go.data ≠ .cell v := fun v q => by rw [hgd0] at q; cases q
    obtain ⟨cp, hcp, ncp⟩ := pick_at0 C s2 hCo
    have cpm : ∀ p ∈ cp, p.1 ∈ C := fun p m => by rw [← hcp.1]; exact List.mem_map_of_mem m
    have J0 : JI X D C s2 [] [] (L2.start N vs) H s2 := by
      refine ⟨#[], cD, cp, .nil, hcp, ?_⟩
      rw [← hX]
      refine Inv.pinnedG I2 fun p hp => ?_
      rcases List.mem_append.mp hp with m | m
      · rw [List.mem_singleton.mp m]
        obtain ⟨y1, y2, y3, _, _⟩ := young L (Nat.le_refl _)
        exact ⟨eL, y1, y2, y3, nogo⟩
      · rcases List.mem_cons.mp m with rfl | m
        · obtain ⟨y1, y2, y3, _, _⟩ := young D (Nat.le_of_lt (big D (.inl rfl)))
          exact ⟨heD, y1, y2, y3, fun v q => by cases q⟩
        · have m : p ∈ cp := by simpa using m
          obtain ⟨y1, y2, y3, _, _⟩ := young p.1 (Nat.le_of_lt (big p.1 (.inr (cpm p m))))
          exact ⟨hcp.2 p m, y1, y2, y3, ncp p m⟩
    have hA : Aprt X D C [] := by
      refine ⟨fun b hb => ?_, hnd⟩
      obtain ⟨_, y2, _, y4, y5⟩ := young b (Nat.le_of_lt (big b hb))
      rw [← hX]
      refine ⟨y4, y2, y5, fun p hp => ?_, fun p hp => nomatch hp⟩
      rw [List.mem_singleton.mp hp]
      exact Nat.ne_of_lt (big b hb)
    have pinned : ∀ {s₀ : Shared} {ip : List (Addr × Obj)} {ys : List V} {s' : Shared} {σ' : L2.St} {H' : Hp}, JI X D C s₀ ip ys σ' H' s' → s'.heap.IsGen L s1.gens.size := fun {s₀ ip ys s' σ' H'} hI => by
      obtain ⟨acc, cc, cp', _, _, J⟩ := hI
      refine isg _ (J.pin (L, go) (List.mem_append_left _ ?_)).1
      rw [← hX]
      exact List.mem_singleton.mpr rfl
    have base0 : ∀ {s₀ : Shared} {ip : List (Addr × Obj)} {ys : List V} {s' : Shared} {σ' : L2.St} {H' : Hp}, JI X D C s₀ ip ys σ' H' s' → s'.os = s.os ∧ AllBare s'.gens ∧ Un (frs outer) [] H H' s.heap s'.heap ∧ HOk P w H' s'.heap ∧ s'.heap.NoLimit ∧ K.In s'.heap := fun {s₀ ip ys s' σ' H'} hI => by
      obtain ⟨pins, J⟩ := hI.bare'
      rw [← hX] at J
      exact ⟨J.os, J.bare, J.base, J.hok, J.nolimit, J.kIn⟩
    have XK' : X.K = K := by rw [← hX]; rfl
    refine seg_func ?_
    refine seg_imp (R := JR X D C (fun ys v H' => v = .non ∧ Q ys H') fun e s' => CX P w outer H s E e s' ∧ ∀ p ∈ [(L, go)], s'.heap.get? p.1 = some p.2) (Y := JY X D C pk) (fun n s₀ r s1' hR => ?_) (fun n s₀ v s1' kap kap' hkk hY => ?_) sizeLine ?_
    · cases r with
      | error e =>
        obtain ⟨q1, q2⟩ := hR
        exact .inr ⟨e, rfl, q1, isg _ (q2 (L, go) (List.mem_singleton.mpr rfl))⟩
      | ok fl =>
        cases fl with
        | next => exact False.elim hR
        | brk => exact False.elim hR
        | cont => exact False.elim hR
        | ret u =>
          obtain ⟨ys, v, ip, σ', H', hn, hI, rv, ev, hQ⟩ := hR
          subst ev
          have eu : u = Value.none := rv
          subst eu
          obtain ⟨a1, _, _, ⟨acc, cc, ra, ea⟩, a5⟩ := hI.facts
          obtain ⟨b1, b2, b3, b4, _⟩ := base0 hI
          exact .inl ⟨.inl rfl, H', ys, acc, cc, b1, b2, b3, b4, a1, fun b m => ⟨(a5 b m).1, (a5 b m).2.2.2⟩, ea, ra, by omega, hQ⟩
    · obtain ⟨ys, xx, z, ip, σ', H', hn, h2, hz, hI, h3⟩ := hY
      obtain ⟨_, _, _, ⟨acc, cc, ra, ea⟩, a5⟩ := hI.facts
      obtain ⟨b1, b2, _, b4, b5, b6⟩ := base0 hI
      have hsz : acc.size = ys.length := by
        have e1 := ra.length
        have e2 : acc.toList.length = acc.size := by simp
        omega
      refine ⟨b1, b2, b5, pinned hI, ⟨acc, cc, ea, by rw [hsz]; exact hn⟩, fun b m => (a5 b m).2.2.2, z, ?_, fun s' q => hkk _ _ (h3 s' q)⟩
      obtain ⟨pins, J⟩ := hI.bare'
      exact Pjk.hp J h2 hz
    · have pX : X.prog = P := by rw [← hX]; rfl
      have wX : X.w = w := by rw [← hX]; rfl
      have eX : X.env = envOfC qual scope s.heap.objs.size f cdv := by rw [← hX]; rfl
      have aX : X.A = Aw.deeper (envOfC qual scope s.heap.objs.size f cdv) := by rw [← hX]; rfl
      have xX : ∀ e s', X.xe e s' → wpAny (model P w) (Aw.deeper (envOfC qual scope s.heap.objs.size f cdv)) (leaving (envOfC qual scope s.heap.objs.size f cdv) e) (fun _ s'' => CX P w outer H s E e s'' ∧ ∀ p ∈ [(L, go)], s''.heap.get? p.1 = some p.2) (fun _ _ => False) s' := fun e s' h => by
        rw [← hX] at h; exact h
      have ht' := ht D C [] Aw (JR X D C (fun ys v H' => v = .non ∧ Q ys H') fun e s' => CX P w outer H s E e s' ∧ ∀ p ∈ [(L, go)], s'.heap.get? p.1 = some p.2) sizeLine s2 s2 (.func body (envOfC qual scope s.heap.objs.size f cdv)) []
        (fun f => .pure (.done (.ret (match f with | .ret v => v | _ => .none)))) (fun e => (leaving (envOfC qual scope s.heap.objs.size f cdv) e).wrap (fun _ => .raise e) .raise id id) id id ⟨hA, by rw [aX]; exact over_func, rfl, rfl, rfl⟩ (Nat.add_zero _) ?_ J0
      · rw [pX, wX, eX] at ht'
        exact ht'
      · rw [show (fun f : Flow => (.pure (.done (.ret (match f with | .ret v => v | _ => .none))) : Sem PySem.Fin)) = _ from rfl]
        refine ⟨fun n ys s₀ s' fl hn hs => ?_, fun n s₀ e s' hx => ?_⟩
        · cases fl with
          | next =>
            obtain ⟨σ', H', hI, hQ⟩ := hs
            exact seg_end (.ok (.ret .none)) ⟨ys, .non, [], σ', H', hn, hI, rfl, rfl, hQ⟩
          | brk => obtain ⟨_, _, _, q⟩ := hs; exact q.elim
          | cont => obtain ⟨_, _, _, q⟩ := hs; exact q.elim
          | ret u =>
            obtain ⟨v, σ', H', hI, rv, ev, hQ⟩ := hs
            exact seg_end (.ok (.ret u)) ⟨ys, v, [], σ', H', hn, hI, rv, ev, hQ⟩
        · refine seg_wrap ?_
          rw [over_func, pX, wX]
          refine wpAny_mono (xX e s' hx) ?_ ?_
          · exact fun _ s3 q => seg_end (.error e) q
          · exact fun _ s3 q => q.elim
  exact hL ▸ main _ _ _ _ rfl rfl rfl fun h => Heap.get?_push_size _ rfl
end Y
namespace Y
open PySem PySem.Spec PyProof.Rows L2 GenW
structure EltJ (pk : Pjk) (tg elt : Expr) (ce : Env) : Prop where
  run : ∀ (P : Program) (w : World) (A : Around) (s : Shared) (m : Str → Option Value) (v : Value) (z : V) (Q : Value → Shared → Prop) (E : Value → Shared → Prop), A.handled = none → s.heap.Ns ce.locals m → pk.atH v z s.heap →
    (∀ u s' m', RelV z u → s'.os = s.os → s'.gens = s.gens → s'.heap.Ns ce.locals m' → (∀ b o, b ≠ ce.locals → s.heap.get? b = some o → s'.heap.get? b = some o) → Q u s') →
    wpAny (model P w) A (PySem.assign tg ce v) (fun _ s2 => wpAny (model P w) A (eval elt ce) Q E s2) E s
section
variable {ce : Env} {x y : Str} {p1 p2 p3 p4 : Pos} {j : Nat}
theorem elt_id (hk : ce.kindOf x = some .local) (hf : ce.scope.kind = .function) (hd : (x == ("__debug__" : Str)) = false) : EltJ .id (.Name x p1) (.Name x p2) ce := by
  refine ⟨fun P w A s m v z Q E hh hn hz k => ?_⟩
  refine wpAny_assign_Name (wpAny_storeName_local hk hn (fun h' n' sb => ?_) (by rw [hf]; rfl))
  refine wpAny_Name (wpAny_loadName_local (v := v) hf hk n' (by simp) ?_) hd
  exact k v { s with heap := h', toks := s.toks + 1 } _ hz rfl rfl n' fun b o hb e => (sb.2 b hb).trans e
theorem elt_fst (hk : ce.kindOf x = some .local) (hk2 : ce.kindOf y = some .local) (hxy : x ≠ y) (hf : ce.scope.kind = .function) (hd : (x == ("__debug__" : Str)) = false) : EltJ .fst (.Tuple [.Name x p1, .Name y p2] j p3) (.Name x p4) ce := by
  refine ⟨fun P w A s m v z Q E hh hn hz k => ?_⟩
  obtain ⟨T, u1, u2, rfl, ht, r⟩ := hz
  refine assign_Tuple_tuple hh ht rfl rfl fun h1 e1 => ?_
  have k1 : ∀ b o, s.heap.get? b = some o → h1.get? b = some o := fun b o e => e1 b o (Nat.ne_of_lt (Heap.lt_size e)) e
  have n1 : h1.Ns ce.locals m := hn.keeps k1
  refine assignInOrder_cons (wpAny_assign_Name (wpAny_storeName_local hk n1 (fun h2 n2 sb2 => ?_) (by rw [hf]; rfl)))
  refine assignInOrder_cons (wpAny_assign_Name (wpAny_storeName_local hk2 n2 (fun h3 n3 sb3 => ?_) (by rw [hf]; rfl)))
  refine assignInOrder_nil ?_
  refine wpAny_Name (wpAny_loadName_local (v := u1) hf hk n3 (by simp [hxy]) ?_) hd
  exact k u1 _ _ r rfl rfl n3 fun b o hb e => (sb3.2 b hb).trans ((sb2.2 b hb).trans (k1 b o e))
end
structure PGJ (X : Cx) (k : Nat) (e : Expr) (tg : TGen) (pk : Pjk) (E : XK) : Prop where
  run : ∀ (pins : List (Addr × Obj)) (s : Shared) (σ : L2.St) (H : Hp) (cont : List V → Hp → Prop), Inv X pins σ H s → tg σ H cont → wpAny (model X.prog X.w) X.A (eval e X.env)
    (fun u s' => ∃ H1 sc, Inv X pins σ H1 sc ∧ MadeJ X.prog X.w k X.stack H1 sc pk cont E u s') X.xe s
end Y
namespace Y
open PySem PySem.Spec PyProof.Rows L2 GenW
inductive GR where
  | ok (f : Fl) (σ : Sg) (st : List Cell) (ys : List P) | exc (x : Exn) (σ : Sg) (st : List Cell) | no
abbrev GMn := Sg → List Cell → List P → GR
def GR.then (r : GR) (k : Sg → List Cell → List P → GR) : GR := match r with
  | .ok .nx σ st ys => k σ st ys
  | r => r
def SR.gr (r : SR) (ys : List P) : GR := match r with
  | .ok f σ st => .ok f σ st ys
  | .exc x σ st => .exc x σ st
  | .no => .no
def Res.gto {α : Type} (r : Res α) (σ : Sg) (k : α → List Cell → GR) : GR := match r with
  | .ok a st => k a st
  | .exc x st => .exc x σ st
  | .no => .no
def gEnd : GR → Res W
  | .ok .nx _ st1 ys => .ok (.p (.lst ys)) st1
  | .ok (.rt (.p .non)) _ st1 ys => .ok (.p (.lst ys)) st1
  | .exc x _ st1 => .exc x st1
  | _ => .no
def runG (np N : Nat) (m : GMn) : FM := fun ws st => if ws.length = np then gEnd (m (ws.map some ++ List.replicate (N - np) none) st []) else .no
def AftG (B : Bs) (ρ : List Addr) (G : Hp) (R : GR) (D : GEnds) (Wx : WX) : Prop := match R with
  | .ok f σ st ys => ∀ ρ' G' H' τ' zs, ρ <+: ρ' → Sub G G' → B.Rel ρ' G' st H' → B.RS ρ' G' σ τ' → RPs B.K B.cl G' ys zs → (match f with
    | .nx => D.nx zs τ' H'
    | .bk => D.bk zs τ' H'
    | .ct => D.ct zs τ' H'
    | .rt w => ∀ v, B.RW ρ' G' w v → D.rt zs v H')
  | .exc x σ st => ∀ ρ' G' H' τ' cls d, ρ <+: ρ' → Sub G G' → B.Rel ρ' G' st H' → B.RS ρ' G' σ τ' → RX B.K B.cl G' H' x cls d → Wx cls d τ' H'
  | .no => False
structure YG (K : PySem.W.Frag) (cl : Cls) (X : Cx) (Wx : WX) (pk : Pjk) (m : GMn) (e : Stmt) : Prop where
  run : ∀ E0 ρ G σ st ys τ H zs D, (bs K cl E0).Rel ρ G st H → RS K cl ρ G σ τ → RPs K cl G ys zs → AftG (bs K cl E0) ρ G (m σ st ys) D Wx → TJ X pk e D zs τ H
structure YGs (K : PySem.W.Frag) (cl : Cls) (X : Cx) (Wx : WX) (pk : Pjk) (m : GMn) (e : List Stmt) : Prop where
  run : ∀ E0 ρ G σ st ys τ H zs D, (bs K cl E0).Rel ρ G st H → RS K cl ρ G σ τ → RPs K cl G ys zs → AftG (bs K cl E0) ρ G (m σ st ys) D Wx → TJs X pk e D zs τ H
section
variable {K : PySem.W.Frag} {cl : Cls} {X : Cx} {Wx : WX} {pk : Pjk} {E0 : En} {ρ ρ' : List Addr} {G G' : Hp} {σ : Sg} {τ : L2.St} {st : List Cell} {H : Hp} {D : GEnds} {ys : List P} {zs : List V}
theorem AftG.mono {B : Bs} {R : GR} (p : ρ <+: ρ') (s : Sub G G') (h : AftG B ρ G R D Wx) : AftG B ρ' G' R D Wx := by
  cases R with
  | ok f σ st ys => exact fun ρ2 G2 H2 b zs p2 s2 r u => h ρ2 G2 H2 b zs (p.trans p2) (s.trans s2) r u
  | exc x σ st => exact fun ρ2 G2 H2 τ c d p2 s2 r u => h ρ2 G2 H2 τ c d (p.trans p2) (s.trans s2) r u
  | no => exact h
theorem AftG.nx {B : Bs} (h : AftG B ρ G (.ok .nx σ st ys) D Wx) (R : B.Rel ρ G st H) (S : B.RS ρ G σ τ) (r : RPs B.K B.cl G ys zs) : D.nx zs τ H := h ρ G H τ zs (List.prefix_refl _) (Sub.refl _) R S r
theorem AftG.seq {B : Bs} {α β : Type} {U : List Addr → Hp → α → β → Prop} {R : Res α} {k : α → List Cell → GR} {Q' : β → Hp → Prop} (S : B.RS ρ G σ τ) (h : AftG B ρ G (R.gto σ k) D Wx)
    (g : ∀ a st ρ' G' H' b, R = .ok a st → ρ <+: ρ' → Sub G G' → B.Rel ρ' G' st H' → U ρ' G' a b → AftG B ρ' G' (k a st) D Wx → Q' b H') : Aft B U ρ G R Q' (fun c d H' => Wx c d τ H') := by
  cases R with
  | ok a st => exact fun ρ2 G2 H2 b p s r u => g a st ρ2 G2 H2 b rfl p s r u (AftG.mono p s h)
  | exc x st => exact fun ρ2 G2 H2 c d p s r u => h ρ2 G2 H2 τ c d p s r (S.mono p s) u
  | no => exact h
end
def spJ (K : PySem.W.Frag) (cl : Cls) (F : Pjk → FM) : SpJ := fun pk vs H Q E => ∃ Q', spF K cl (F pk) vs H Q' E ∧ ∀ zs H2, (∀ p, H2 p = none → Q' (.ref p) (upd H2 p (.lst zs))) → Q zs H2
abbrev cxG (P : Program) (w : World) (K : PySem.W.Frag) (mg : Str → Option Value) (base : Heap) (N : List Str) (qual : Str) (scope : Scope) (f : Addr) (cd : Value) (A : Around) (outer : List Env) (s : Shared) (H : Hp) (E : XK) (pn : List (Addr × Obj)) : Cx :=
  gcxOf P w K mg base N qual scope f cd A outer s H E pn
structure Gk (P : Program) (w : World) (K : PySem.W.Frag) (mg : Str → Option Value) (base : Heap) (cl : Cls) (k : Nat) (f : Addr) (ps : List Str) (F : Pjk → FM) : Prop where
  ex : ∃ fd, GenD P w K mg base k f fd ps (spJ K cl F) ∧ Binds K fd ps []
  kp : PySem.W.keepIn K (.ref f) = true
section
variable {K : PySem.W.Frag} {cl : Cls}
theorem Gk.of {P : Program} {w : World} {mg : Str → Option Value} {base : Heap} {N ps : List Str} {x qual : Str} {params : Arguments} {body : List Stmt} {scope : Scope} {f : Addr} {k : Nat} {m : Pjk → GMn}
    (F : ∃ fd, FunD K x qual params body scope [] [] f fd) (S : GScope N ps scope) (bd : ∀ (kV doc pm : Value) (an : Option Addr) (cdv ct : Value) (us : List Value), us.length = ps.length → bindArgs (PySem.W.fnOf x qual params body scope .none kV doc pm an cdv ct) ⟨us, []⟩ = pure (ps.zip us))
    (hb : ∀ (pk : Pjk) (cd : Value) (A : Around) (outer : List Env) (s : Shared) (H : Hp) (E : XK) (pn : List (Addr × Obj)), GX K (cxG P w K mg base N qual scope f cd A outer s H E pn) → Takes (cxG P w K mg base N qual scope f cd A outer s H E pn) (WE E) → Room k (A.deeper (envOfC qual scope s.heap.objs.size f cd)) →
      YGs K cl (cxG P w K mg base N qual scope f cd A outer s H E pn) (WE E) pk (m pk) body) :
    Gk P w K mg base cl (k + 1) f ps (fun pk => runG ps.length N.length (m pk)) := by
  obtain ⟨fd, F⟩ := F
  refine ⟨⟨fd, ?_, F.bindsN bd⟩, F.kp⟩
  obtain ⟨oc, od, dV, kV, doc, pm, an, cdv, ct, osl, rfl, lk, hcd, _, _⟩ := F.ex
  have len : ∀ pk vs H Q E, spJ K cl (fun pk => runG ps.length N.length (m pk)) pk vs H Q E → vs.length = ps.length := fun pk vs H Q E h => by
    obtain ⟨Q', ⟨ρ0, G0, st0, ws, R, r, a⟩, _⟩ := h
    have a : Aft _ _ _ _ (runG ps.length N.length (m pk) ws st0) Q' E := a
    unfold runG at a
    split at a
    · rename_i hl; rw [← r.length]; exact hl
    · exact a.elim
  refine genD_of lk hcd S len fun A outer s H vs pk Q E pn hr h => ?_
  have hl := len _ _ _ _ _ h
  obtain ⟨Q', ⟨ρ0, G0, st0, ws, R, r, a⟩, hQ⟩ := h
  have a : Aft ⟨K, cl, ⟨strip H, ρ0.length, G0⟩⟩ (RW K cl) ρ0 G0 (runG ps.length N.length (m pk) ws st0) Q' E := a
  have lw : ws.length = ps.length := by rw [r.length]; exact hl
  unfold runG at a
  rw [if_pos lw] at a
  have gx : GX K (cxG P w K mg base N qual scope f cdv A outer s H E pn) := ⟨rfl, rfl, S.nd, by have := hr.un; show (A.deeper _).units + 65 < cLine; omega, hr.hd⟩
  have fin : ∀ {ρ' : List Addr} {G' H' : Hp} {st' : List Cell} {ys : List Y.P} {zs : List V}, Aft ⟨K, cl, ⟨strip H, ρ0.length, G0⟩⟩ (RW K cl) ρ0 G0 (.ok (.p (.lst ys)) st') Q' E → ρ0 <+: ρ' → Sub G0 G' → Rel K cl ⟨strip H, ρ0.length, G0⟩ ρ' G' st' H' → RPs K cl G' ys zs → Q zs H' := fun {ρ' G' H' st' ys zs} a p sb R' r' => by
    refine hQ zs H' fun q hq => ?_
    have gn := R'.gnone hq
    exact a ρ' (upd G' q (.lst zs)) (upd H' q (.lst zs)) (.ref q) p (sb.trans (Sub.new gn)) (R'.froze hq) (RP.lst upd_same (RPs.mono (Sub.new gn) r'))
  refine (hb pk cdv A outer s H E pn gx takes_gcx hr).run ⟨strip H, ρ0.length, G0⟩ ρ0 G0 (ws.map some ++ List.replicate (N.length - ps.length) none) st0 [] (L2.start N vs) H [] _ R ?_ .nil ?_
  · unfold L2.start
    rw [hl]
    refine ⟨by rw [List.length_append, List.length_append, List.length_map, List.length_map, lw, hl, List.length_replicate, List.length_replicate], fun i w' e => ?_⟩
    rcases app_cut e with ⟨h1, h2⟩ | ⟨h1, h2⟩
    · rw [List.length_map] at h1
      rw [List.getElem?_map] at h2
      cases q : ws[i]? with
      | none => rw [q] at h2; cases h2
      | some u =>
        rw [q] at h2
        have h2 : some (some u) = some (some w') := h2
        cases h2
        obtain ⟨v, ev, rv⟩ := r.get q
        refine ⟨v, ?_, rv⟩
        rw [List.getElem?_append_left (by rw [List.length_map, hl, ← lw]; exact h1), List.getElem?_map, ev]; rfl
    · rw [List.getElem?_replicate] at h2
      split at h2 <;> cases h2
  · generalize m pk (ws.map some ++ List.replicate (N.length - ps.length) none) st0 [] = res at a ⊢
    cases res with
    | no => exact a.elim
    | exc x σ st => exact fun ρ' G' H' τ' cls d p s R' S' u => a ρ' G' H' cls d p s R' u
    | ok fl σ st ys =>
      cases fl with
      | nx => exact fun ρ' G' H' τ' zs p sb R' S' r' => fin a p sb R' r'
      | rt u =>
        cases u with
        | r i => exact a.elim
        | p x =>
          cases x with
          | non =>
            intro ρ' G' H' τ' zs p sb R' S' r' v rv
            cases rv
            exact ⟨rfl, fin a p sb R' r'⟩
          | _ => exact a.elim
      | bk => exact a.elim
      | ct => exact a.elim
end
end Y
namespace Y
open PySem PySem.Spec PyProof.Rows L2 GenW
theorem gmade_of {P : Program} {w : World} {k : Nat} {outer : List Env} {H : Hp} {s s' : Shared} {Q : List V → Hp → Prop} {E : XK} {u : Value} (h : MadeJ P w k outer H s .id Q E u s') : GMade P w k outer H s [] Q E u s' := by
  obtain ⟨a, g, c, rfl, h1, h2, h3, h4, h5, h6, h7, h8, wake⟩ := h
  refine ⟨a, g, c, rfl, h1, h2, h3, h4, h5, h6, h7, h8, fun A S s2 q1 q2 q3 q4 q5 q6 q7 => ?_⟩
  refine seg_imp (fun n s₀ r s3 hR => ?_) (fun n s₀ v s3 kap kap' hk hY => ?_) sizeLine (wake A S [] s2 q1 q2 (fun b hb => ?_) (by simp) q4 q5 (fun b hb => nomatch hb) q6 q7)
  · rcases hR with ⟨hr, H', ys, acc, c', z1, z2, z3, z4, z5, _, z6, z7, z8, z9⟩ | q
    · exact .inl ⟨hr, H', ys, acc, c', z1, z2, z3, z4, z5, z6, z7, z8, z9⟩
    · exact .inr q
  · obtain ⟨z1, z2, z3, z4, z5, _, z, hz, hkap⟩ := hY
    refine ⟨z1, z2, z3, z4, z5, fun s4 q => hk _ _ (hkap s4 ⟨q.os, q.bare, fun b o n _ e => q.keep b o n e, fun acc c e => ?_, fun b hb => nomatch hb⟩)⟩
    obtain ⟨c', e'⟩ := q.own acc c e
    exact ⟨v, c', hz, e'⟩
  · rcases hb with rfl | hb
    · exact q3
    · cases hb
def TPG (X : Cx) (k : Nat) (e : Expr) (pk : Pjk) (E : XK) : TGen := fun σ H cont => ∀ (pins : List (Addr × Obj)) (s : Shared), Inv X pins σ H s → wpAny (model X.prog X.w) X.A (eval e X.env)
    (fun u s' => ∃ H1 sc, Inv X pins σ H1 sc ∧ MadeJ X.prog X.w k X.stack H1 sc pk cont E u s') X.xe s
theorem TPG.pg {X : Cx} {k : Nat} {e : Expr} {pk : Pjk} {E : XK} : PGJ X k e (TPG X k e pk E) pk E := ⟨fun pins s σ H cont I h => h pins s I⟩
theorem TPG.gen {X : Cx} {k : Nat} {e : Expr} {E : XK} : PGen X k e (TPG X k e .id E) E := ⟨fun pins s σ H cont I h => wpAny_mono (h pins s I) (fun u s' ⟨H1, sc, I1, M⟩ => ⟨H1, sc, [], I1, .nil, gmade_of M⟩) fun _ _ z => z⟩
inductive LcG : Pjk → Expr → Expr → Scope → Prop
  | id {x : Str} {p1 p2 : Pos} {sc : Scope} : sc.names.lookup x = some .local → (x == ("__debug__" : Str)) = false → LcG .id (.Name x p1) (.Name x p2) sc
  | fst {x y : Str} {p1 p2 p3 p4 : Pos} {j : Nat} {sc : Scope} : sc.names.lookup x = some .local → sc.names.lookup y = some .local → x ≠ y → (x == ("__debug__" : Str)) = false → LcG .fst (.Tuple [.Name x p1, .Name y p2] j p3) (.Name x p4) sc
theorem LcG.elt {pk : Pjk} {tg elt : Expr} {sc : Scope} (h : LcG pk tg elt sc) (hk : sc.kind = .function) (env : Env) (C : Addr) (l : List (Str × Addr)) : EltJ pk tg elt (compEnvC sc l C env) := by
  have hf : (compEnvC sc l C env).scope.kind = .function := by simp [compEnvC, relabel, hk]
  cases h with
  | id h1 h2 => exact elt_id (lookup_relabel_local h1) hf h2
  | fst h1 h2 h3 h4 => exact elt_fst (lookup_relabel_local h1) (lookup_relabel_local h2) h3 hf h4
structure LcOk (pk : Pjk) (tg elt : Expr) (sc : Scope) : Prop where
  e : LcG pk tg elt sc
  loc : ∀ y ∈ sc.names, y.2 = .local
  kind : sc.kind = .function
  uniq : ∀ y ∈ sc.names, sc.names.lookup y.1 = some .local
def lsE (l : List Nat) (r : Res W) : Res W := match r with
  | .exc x st => if l.contains x.c = true then .exc x st else .no
  | r => r
def NoSt (K : PySem.W.Frag) (cl : Cls) (l : List Nat) : Prop := ∀ c, l.contains c = true → ∀ C ns, cl[c]? = some (C, ns) → PySem.W.subIn K (.ref C) (.type "StopIteration") = some false
section
variable {K : PySem.W.Frag} {cl : Cls} {X : Cx} {Wx : WX} {k : Nat} {f : Addr} {ps : List Str} {F : Pjk → FM} {x m nm : Str} {p p2 pos pos2 apos : Pos} {e : Expr} {es : List Expr} {pk : Pjk} {elt tg : Expr} {sc : Scope} {a : AM} {o : EM} {eo : Expr}
theorem Aft.ls {B : Bs} {ρ : List Addr} {G : Hp} {R : Res W} {Q : VK} {Z : ZX} {l : List Nat} (n : NoSt B.K B.cl l) (h : Aft B B.RW ρ G (lsE l R) Q Z) : Aft B B.RW ρ G R Q (fun c d H => Z c d H ∧ PySem.W.subIn B.K c (.type "StopIteration") = some false) := by
  cases R with
  | ok a st => exact h
  | no => exact h
  | exc x st =>
    have h : Aft B B.RW ρ G (if l.contains x.c = true then .exc x st else .no) Q Z := h
    by_cases hc : l.contains x.c = true
    · rw [if_pos hc] at h
      refine fun ρ2 G2 H2 cls d p2 s2 r u => ⟨h ρ2 G2 H2 cls d p2 s2 r u, ?_⟩
      obtain ⟨C, ns, dd, vs, e1, e2, _⟩ := u
      rw [e2]
      exact n _ hc C ns e1
    · rw [if_neg hc] at h
      exact h.elim
end
end Y
namespace Y
open PySem PySem.Spec PyProof.Rows L2
inductive DynOk (K : PySem.W.Frag) (cl : Cls) (X : Cx) (Wx : WX) (e : Expr) : List (Nat × EM) → Prop
  | nil : DynOk K cl X Wx e []
  | cons {c : Nat} {m : EM} {t : List (Nat × EM)} : SE K cl X Wx m e → DynOk K cl X Wx e t → DynOk K cl X Wx e ((c, m) :: t)
theorem DynOk.get {K : PySem.W.Frag} {cl : Cls} {X : Cx} {Wx : WX} {e : Expr} : ∀ {t : List (Nat × EM)}, DynOk K cl X Wx e t → ∀ {c : Nat} {m : EM}, t.lookup c = some m → SE K cl X Wx m e
  | _, .nil, _, _, h => by cases h
  | (d, n) :: t, .cons h1 h2, c, m, h => by
    rw [List.lookup_cons] at h
    split at h
    · cases h; exact h1
    · exact h2.get h
end Y
namespace Y
open PySem PySem.Spec PyProof.Rows L2
open PySem.W (ksEnv ksFn)
section
open PySem.W PySem.Calls
variable {P : Program} {w : World} {K : PySem.W.Frag} {mg : Str → Option Value} {base : Heap} {C f cc cda f2 : Addr} {name qual m : Str} {params : Arguments} {body : List Stmt} {scope : Scope} {fd : FuncData}
structure SupF (P : Program) (K : PySem.W.Frag) (mg : Str → Option Value) (C f cc cda f2 : Addr) (name m qual : Str) (params : Arguments) (body : List Stmt) (scope : Scope) (fd : FuncData) : Prop where
  lk : ∃ oc od dV kV doc pm an ct osl, fd = ksFn name qual params body scope dV kV doc pm an (.ref cda) ct cc ∧ K.lookup f = some ⟨oc, od, .func fd, osl⟩
  hcd : PySem.W.codeIn K (.ref cda) qual = true
  cell : ∃ cl0 cd0 csl, K.lookup cc = some ⟨cl0, cd0, .cell (some (.ref C)), csl⟩
  par : ∃ ar, (params.posonlyargs ++ params.args).head? = some ar ∧ ar.arg = ("self" : Str)
  code : ∃ ccl cdd vs ccs file tf, K.lookup cda = some ⟨ccl, cdd, .fields vs, ccs⟩ ∧ vs[2]? = some (.str file tf) ∧ ((P.main.file : Str) == file) = true
  top : (P.main.scope.names.lookup ("super" : Str)).isSome = false
  sup : mg "super" = none
  along : PySem.W.ks_superIn K C C m = some (some (.ref f2))
  cls : (PySem.W.clsIn K C).isSome = true
  self : PySem.W.mroIn K C (.ref C) = some true
  ty : PySem.W.typeIn K (.ref f2) = some (.type "function")
  fi : PySem.W.fnIn K f2 = true
  opq : PySem.W.nsIn K PySem.cStatics "thirdparty.any" = some none
end
end Y
namespace Y
open PySem PySem.W PySem.Calls PyProof.Rows HandSHeadRun
noncomputable section
def RunH {γ : Type} (r : OpenRow) (M : Nat) (w : World) (h : SharedT → γ) (c : γ) : Prop := ∀ os : OsState, (endF (stepQ (denQ tabQ) r.prog w) M r.prog w os).map h = some c
def hFa (n : Nat) (es : List DefE) (fa : List He.Fa) (s : SharedT) : Bool := (fun K : PySem.W.Frag => fa.all fun f => f.ok K) (frE n es (getT s))
def hFn (n : Nat) (es : List DefE) (fn : List He.DefD) (s : SharedT) : He.AlD := (fun K : PySem.W.Frag => (fn.all fun d => d.ok K, fn.map fun d => He.fnW K d.at_)) (frE n es (getT s))
def hRest (n : Nat) (ts : List He.Tab) (tf : List He.Defn) (ex : PySem.W.Frag → Bool) (es : List DefE) (s : SharedT) : (List (Option (List (Option (PySem.Str × Int)))) × Bool) × (Bool × List FnE) :=
  (fun K : PySem.W.Frag => ((ts.map fun t => He.dicW K (t.1 K), ex K && He.tabsB (getT s) tf K), (es.all fun d => d.okB K), es.map fun d => fnE K (d.at_ K))) (frE n es (getT s))
def vRest (ts : List He.Tab) (es : List DefE) (w : World) : (List (Option (List (Option (PySem.Str × Int)))) × Bool) × (Bool × List FnE) := ((ts.map fun t => some (He.keysIn w.params t.2), true), true, es.map DefE.val)
variable {r : OpenRow} {M n : Nat} {w : World} {fa fb : List He.Fa} {fn fm : List He.DefD} {ts : List He.Tab} {tf : List He.Defn} {ex : PySem.W.Frag → Bool} {es : List DefE}
theorem two2 {α β γ : Type} {x : Option α} {f : α → β} {g : α → γ} {a : β} {b : γ} (h1 : x.map f = some a) (h2 : x.map g = some b) : ∃ s, x = some s ∧ f s = a ∧ g s = b := by
  cases x with
  | none => cases h1
  | some s => exact ⟨s, rfl, Option.some.inj h1, Option.some.inj h2⟩
theorem run_parts (a : RunH r M w (hFa n es fa) true) (b : RunH r M w (hFn n es fn) (He.valD fn)) (c : RunH r M w (hRest n ts tf ex es) (vRest ts es w)) : RunB r (hookE' n fa fn ts tf ex es) (fun s => obsE n fa fn ts tf ex es (getT s)) M w := fun os => by
  obtain ⟨s, e, h1, h2⟩ := two2 (a os) (b os)
  have h3 := c os
  rw [e] at h3 ⊢
  have h3 : hRest n ts tf ex es s = vRest ts es w := Option.some.inj h3
  show some (obsE n fa fn ts tf ex es (getT s)) = some (valE' fn ts es w)
  congr 1
  unfold hFa at h1
  dsimp only at h1
  unfold hFn He.valD at h2
  unfold hRest vRest at h3
  unfold obsE valE' He.valX He.valT He.valD He.obsT He.obsD
  simp only [Prod.mk.injEq] at h2 h3 ⊢
  obtain ⟨⟨h4, h5⟩, h6, h7⟩ := h3
  exact ⟨⟨⟨⟨by rw [h1, h2.1]; rfl, h2.2⟩, h4⟩, h5⟩, h6, h7⟩
end
end Y
namespace Y
open PySem PySem.Spec PyProof.Rows L2
section
variable {K : PySem.W.Frag} {cl : Cls} {X : Cx} {Wx : WX} {E0 : En} {ρ : List Addr} {G : Hp} {σ : Sg} {st : List Cell} {τ : L2.St} {H : Hp}
structure KTabI (K : PySem.W.Frag) (w : World) (d : Addr) (kvs : List (Str × Int)) : Prop where
  kd : ∃ es n, KDict K w d es n
  yes : ∀ z y, kvs.lookup z = some y → ∃ t, PySem.W.nsIn K d z = some (some (.int y t))
end
end Y
namespace TS
open PySem PySem.Spec PyProof.Rows L2 PySem.W
open Sem (wp)
abbrev IsZipH (h : Heap) (z TI TO : Addr) (T : Nat) (b : Bool) : Prop :=
  h.get? z = some { cls := .type "zip", dict := none, data := .fields #[rawInt T, .bool b, .bool false, .ref TI, .ref TO], slots := #[] }
end TS
namespace Y
open PySem PySem.Spec PyProof.Rows L2 PySem.W
inductive Grow : Hp → List (V × V) → List Addr → Hp → Prop
  | nil (H : Hp) : Grow H [] [] H
  | snoc {H H' : Hp} {ps : List (V × V)} {Ts : List Addr} {x y : V} {T : Addr} : Grow H ps Ts H' → H' T = none → Grow H (ps ++ [(x, y)]) (Ts ++ [T]) (upd H' T (.tup [x, y]))
theorem Grow.sub {H H' : Hp} {ps : List (V × V)} {Ts : List Addr} (g : Grow H ps Ts H') : Sub H H' := by
  induction g with
  | nil => exact Sub.refl _
  | snoc g h ih => exact ih.trans (Sub.new h)
def ZK.has (K : PySem.W.Frag) (H : Hp) (xs : List V) : ZK → Prop
  | .L a => SqL K H a xs
  | .T a => SqT K H a xs
  | .S x => xs = x.cps.toList.map fun c => V.str ⟨#[c]⟩
section
variable {X : Cx} {pins : List (Addr × Obj)} {σ : L2.St} {z TI TO i1 i2 : Addr} {k1 k2 : ZK} {t1 t2 : Tok} {A : Around} {xs ys : List V}
def ZAt (z TI TO i1 i2 : Addr) (k1 k2 : ZK) (t1 t2 : Tok) (i : Nat) (h : Heap) : Prop :=
  ((i = 0 ∧ IsZip h z TI TO .none ∧ ∃ x y, IsTupOf2 h TO x y) ∨ ∃ T b, TS.IsZipH h z TI TO T b ∧ ∃ u v, IsTupOf2 h T u v) ∧ IsTupOf2 h TI (.ref i1) (.ref i2) ∧ k1.itr t1 h i1 i ∧ k2.itr t2 h i2 i
theorem ZAt.keep {i : Nat} {h h' : Heap} (st : ZAt z TI TO i1 i2 k1 k2 t1 t2 i h) (k : ∀ b o, h.get? b = some o → (b = z ∨ b = TI ∨ b = TO ∨ b = i1 ∨ b = i2 ∨ ∃ T c, TS.IsZipH h z TI TO T c ∧ b = T) → h'.get? b = some o) : ZAt z TI TO i1 i2 k1 k2 t1 t2 i h' := by
  obtain ⟨hz, hTI, g1, g2⟩ := st
  refine ⟨?_, k _ _ hTI (by simp), ZK.itr_at g1 fun o q => k i1 o q (by simp), ZK.itr_at g2 fun o q => k i2 o q (by simp)⟩
  rcases hz with ⟨h0, hz, x, y, hTO⟩ | ⟨T, b, hz, u, v, ho⟩
  · exact .inl ⟨h0, k _ _ hz (by simp), x, y, k _ _ hTO (by simp)⟩
  · exact .inr ⟨T, b, k _ _ hz (by simp), u, v, k _ _ ho (.inr (.inr (.inr (.inr (.inr ⟨T, b, hz, rfl⟩)))))⟩
theorem ZAt.lt {i : Nat} {h : Heap} (st : ZAt z TI TO i1 i2 k1 k2 t1 t2 i h) : z < h.objs.size ∧ TI < h.objs.size ∧ i1 < h.objs.size ∧ i2 < h.objs.size := by
  obtain ⟨hz, hTI, g1, g2⟩ := st
  obtain ⟨_, e1, _⟩ := ZK.itr_rec g1
  obtain ⟨_, e2, _⟩ := ZK.itr_rec g2
  refine ⟨?_, Heap.lt_size hTI, Heap.lt_size e1, Heap.lt_size e2⟩
  rcases hz with ⟨h0, hz, _⟩ | ⟨T, b, hz, _⟩ <;> exact Heap.lt_size hz
end
end Y
namespace GT
open PySem
open Sem (wp)
def noGen (fs : List Frame) : Prop := ∀ F ∈ fs, ∃ k h g l c p kp, F = Frame.ret k h g l c p kp
def GOk : Option GenState → Prop
  | some (.suspended _ _ _ _ fs _) => noGen fs
  | _ => True
def isSusp : GenState → Bool
  | .suspended .. => true
  | _ => false
def trapOf : GenState → GenState
  | .suspended _ l c p fs cl => .suspended (fun _ => .unsupported "trap") l c p fs cl
  | x => x
def SimAt (D : Option GenState) (a b : Option GenState) : Prop := match D with
  | some x => isSusp x = true ∧ a = some (trapOf x) ∧ b = some x
  | none => b = a ∧ GOk a
structure SimG (D : Nat → Option GenState) (g g2 : Array GenState) : Prop where
  size : g2.size = g.size
  at_ : ∀ i, SimAt (D i) g[i]? g2[i]?
theorem SimG.none {D : Nat → Option GenState} {g g2 : Array GenState} (h : SimG D g g2) {i : Nat} {x : GenState} (hx : g[i]? = some x) (hn : isSusp x = false) : D i = Option.none ∧ g2[i]? = some x := by
  have a := h.at_ i
  unfold SimAt at a
  cases e : D i with
  | some y =>
    rw [e] at a
    obtain ⟨a1, a2, _⟩ := a
    rw [hx] at a2
    cases y <;> simp [isSusp, trapOf] at a1 a2
    rw [a2] at hn; cases hn
  | none =>
    rw [e] at a
    exact ⟨rfl, a.1.trans hx⟩
theorem SimG.set {D : Nat → Option GenState} {g g2 : Array GenState} (h : SimG D g g2) {i : Nat} (hD : D i = Option.none) {x : GenState} (hx : GOk (some x)) : SimG D (g.setIfInBounds i x) (g2.setIfInBounds i x) := by
  refine ⟨by simp [h.size], fun j => ?_⟩
  rw [Array.getElem?_setIfInBounds, Array.getElem?_setIfInBounds, h.size]
  by_cases e : i = j
  · subst e
    rw [if_pos rfl, if_pos rfl, hD]
    by_cases hs : i < g.size
    · rw [if_pos hs]; exact ⟨rfl, hx⟩
    · rw [if_neg hs]; exact ⟨rfl, trivial⟩
  · rw [if_neg e, if_neg e]; exact h.at_ j
theorem SimG.push {D : Nat → Option GenState} {g g2 : Array GenState} (h : SimG D g g2) (c : Code) : SimG D (g.push (.fresh c)) (g2.push (.fresh c)) := by
  refine ⟨by simp [h.size], fun j => ?_⟩
  have a := h.at_ j
  rw [Array.getElem?_push, Array.getElem?_push, h.size]
  by_cases e : j = g.size
  · subst e
    rw [if_pos rfl, if_pos rfl]
    unfold SimAt at a ⊢
    cases eD : D g.size with
    | some y =>
      rw [eD] at a
      have a2 := a.2.1
      simp at a2
    | none => exact ⟨rfl, trivial⟩
  · rw [if_neg e, if_neg e]; exact a
end GT
namespace NS
open PySem PySem.Spec PyProof.Rows L2
section
variable {P : Program} {w : World} {A : Around} {E : Value → Shared → Prop} {s : Shared}
def Says (P : Program) (w : World) (s : Shared) (t : Sem Bool) (b : Bool) : Prop := ∀ (A : Around) (E : Value → Shared → Prop) (Q : Bool → Shared → Prop), Q b s → wpAny (model P w) A t Q E s
theorem Says.pure {b : Bool} : Says P w s (Pure.pure b) b := fun A E Q h => wpAny_pure h
mutual
/-- its hash is told by its numbers alone -/
def nkPlain : NestedKey → Bool
  | .none => true
  | .num _ => true
  | .text _ => false
  | .tup ks => nkPlains ks
def nkPlains : List NestedKey → Bool
  | [] => true
  | k :: ks => nkPlain k && nkPlains ks
end
theorem loop_says {σ : Type} {r0 : σ} {f : Value → Sem Bool} {b : Bool} {body : Value → σ → Sem (ForInStep σ)} {Q : σ → Shared → Prop} (hb : ∀ v Q', Q' (ForInStep.yield r0) s → Says P w s (f v) b → wpAny (model P w) A (body v r0) Q' E s) :
    ∀ {vs : List Value}, (∀ v ∈ vs, Says P w s (f v) b) → Q r0 s → wpAny (model P w) A (forIn vs r0 body) Q E s
  | [], _, hq => by
    rw [List.forIn_nil]
    exact wpAny_pure hq
  | v :: vs, hv, hq => by
    rw [List.forIn_cons]
    refine wpAny_bind (hb v _ ?_ (hv v List.mem_cons_self))
    exact loop_says hb (fun u hu => hv u (List.mem_cons_of_mem _ hu)) hq
theorem cls_tuple {n : Nat} {a : Addr} {o : Obj} {vs : Array Value} {m : Nat} (ho : s.heap.get? a = some o) (hc : o.cls = .type "tuple") (hd : o.data = .seq vs m) (h : ∀ v ∈ vs.toList, Says P w s (ofAClassStatement n v) false) : Says P w s (ofAClassStatement (n + 1) (.ref a)) false := fun A E Q hq => by
  have hT : s.TypeIs (.ref a) "tuple" := ⟨o, ho, hc⟩
  unfold ofAClassStatement
  refine wpAny_bind (wpAny_typeOf hT ?_)
  dsimp only
  have e : (("tuple" : String) == "tuple") = true := by decide
  simp only [e, if_true, Bool.not_true, Bool.false_eq_true, if_false]
  try refine wpAny_bind (wpAny_pure ?_)
  try simp only [Bool.not_true, Bool.false_eq_true, if_false]
  show wpAny _ _ (seqItems? (.ref a) >>= _) _ _ s
  refine wpAny_bind (wpAny_seqItems ho hd ?_)
  dsimp only
  refine wpAny_bind ?_
  show wpAny _ _ (forIn vs _ _) _ _ s
  rw [← Array.forIn_toList]
  refine loop_says (f := ofAClassStatement n) (b := false) (fun v Q' q hs => ?_) h ?_
  · refine wpAny_bind (hs _ _ _ ?_)
    simp only [Bool.false_eq_true, if_false]
    exact wpAny_pure q
  · exact wpAny_pure hq
end
section
variable {P : Program} {w : World} {s : Shared}
mutual
theorem cls_key : ∀ (k : NestedKey) (v : Value) (n : Nat), NestedIs s.heap k v → k.depth ≤ n → Says P w s (ofAClassStatement n v) false
  | .none, _, n, x, _ => by cases x; cases n <;> exact .pure
  | .num _, _, n, x, _ => by cases x <;> cases n <;> exact .pure
  | .text _, _, n, x, _ => by cases x; cases n <;> exact .pure
  | .tup ks, _, n, x, hn => by
    cases x with
    | tup hg hc hd hk =>
      rw [NestedKey.depth] at hn
      obtain ⟨m, rfl⟩ : ∃ m, n = m + 1 := ⟨n - 1, by omega⟩
      exact cls_tuple hg hc hd (cls_keys ks _ m hk (by omega))
theorem cls_keys : ∀ (ks : List NestedKey) (vs : List Value) (n : Nat), NestedAll s.heap ks vs → NestedKey.depthAll ks ≤ n → ∀ v ∈ vs, Says P w s (ofAClassStatement n v) false
  | [], _, n, x, _, v, hv => by cases x; cases hv
  | k :: ks, _, n, x, hn, v, hv => by
    cases x with
    | cons x1 x2 =>
      rw [NestedKey.depthAll] at hn
      rcases List.mem_cons.mp hv with e | hv
      · rw [e]; exact cls_key k _ n x1 (by omega)
      · exact cls_keys ks _ n x2 (by omega) v hv
end
end
section
variable {P : Program} {w : World} {A : Around} {E : Value → Shared → Prop} {s : Shared}
inductive SaysL (P : Program) (w : World) (s : Shared) (f : Value → Sem Bool) : List Value → List Bool → Prop
  | nil : SaysL P w s f [] []
  | cons {v b vs bs} : Says P w s (f v) b → SaysL P w s f vs bs → SaysL P w s f (v :: vs) (b :: bs)
theorem loop_all {σ : Type} {r0 r1 : σ} {f : Value → Sem Bool} {body : Value → σ → Sem (ForInStep σ)} {Q : σ → Shared → Prop} (hy : ∀ v Q', Q' (ForInStep.yield r0) s → Says P w s (f v) true → wpAny (model P w) A (body v r0) Q' E s)
    (hn : ∀ v Q', Q' (ForInStep.done r1) s → Says P w s (f v) false → wpAny (model P w) A (body v r0) Q' E s) : ∀ {vs : List Value} {bs : List Bool}, SaysL P w s f vs bs → Q (if bs.all id = true then r0 else r1) s → wpAny (model P w) A (forIn vs r0 body) Q E s
  | [], _, .nil, hq => by
    rw [List.forIn_nil]
    exact wpAny_pure hq
  | v :: vs, _, .cons (b := b) h1 h2, hq => by
    rw [List.forIn_cons]
    cases b with
    | true => exact wpAny_bind (hy v _ (loop_all hy hn h2 hq) h1)
    | false => exact wpAny_bind (hn v _ (wpAny_pure hq) h1)
theorem hash_tuple {n : Nat} {a : Addr} {o : Obj} {vs : Array Value} {m : Nat} {bs : List Bool} (ho : s.heap.get? a = some o) (hc : o.cls = .type "tuple") (hd : o.data = .seq vs m) (h : SaysL P w s (hashByValue n) vs.toList bs) : Says P w s (hashByValue (n + 1) (.ref a)) (bs.all id) := fun A E Q hq => by
  have hT : s.TypeIs (.ref a) "tuple" := ⟨o, ho, hc⟩
  unfold hashByValue
  refine wpAny_bind (wpAny_specialOf hT F.slot_tuple_hash.lookup ?_)
  show wpAny _ _ (seqItems? (.ref a) >>= _) _ _ s
  refine wpAny_bind (wpAny_seqItems ho hd ?_)
  refine wpAny_bind ?_
  show wpAny _ _ (forIn vs _ _) _ _ s
  rw [← Array.forIn_toList]
  refine loop_all (f := hashByValue n) (r1 := (some false, ())) (fun v Q' q hs => ?_) (fun v Q' q hs => ?_) h ?_
  · refine wpAny_bind (hs _ _ _ ?_)
    simp only [Bool.not_true, Bool.false_eq_true, if_false]
    exact wpAny_pure q
  · refine wpAny_bind (hs _ _ _ ?_)
    simp only [Bool.not_false, if_true]
    exact wpAny_pure q
  · cases e : bs.all id with
    | true =>
      rw [e] at hq
      exact wpAny_pure hq
    | false =>
      rw [e] at hq
      exact wpAny_pure hq
end
section
variable {P : Program} {w : World} {s : Shared}
mutual
theorem hash_key : ∀ (k : NestedKey) (v : Value) (n : Nat), NestedIs s.heap k v → k.depth ≤ n → Says P w s (hashByValue n v) (nkPlain k)
  | .none, _, n, x, _ => by cases x; cases n <;> exact .pure
  | .num _, _, n, x, _ => by cases x <;> cases n <;> exact .pure
  | .text _, _, n, x, _ => by cases x; cases n <;> exact .pure
  | .tup ks, _, n, x, hn => by
    cases x with
    | tup hg hc hd hk =>
      rw [NestedKey.depth] at hn
      obtain ⟨m, rfl⟩ : ∃ m, n = m + 1 := ⟨n - 1, by omega⟩
      have e : nkPlain (.tup ks) = (ks.map nkPlain).all id := by
        rw [nkPlain]
        clear hn hk
        induction ks with
        | nil => rfl
        | cons k ks ih => rw [nkPlains, ih]; rfl
      rw [e]
      exact hash_tuple hg hc hd (hash_keys ks _ m hk (by omega))
theorem hash_keys : ∀ (ks : List NestedKey) (vs : List Value) (n : Nat), NestedAll s.heap ks vs → NestedKey.depthAll ks ≤ n → SaysL P w s (hashByValue n) vs (ks.map nkPlain)
  | [], _, n, x, _ => by cases x; exact .nil
  | k :: ks, _, n, x, hn => by
    cases x with
    | cons x1 x2 =>
      rw [NestedKey.depthAll] at hn
      exact .cons (hash_key k _ n x1 (by omega)) (hash_keys ks _ n x2 (by omega))
end
end
abbrev NIs (P : Program) (w : World) (h : Heap) (k : NestedKey) (a : Addr) : Prop := (nestedKind P w).is h k a
abbrev nh (P : Program) (w : World) (k : NestedKey) : Int := (nestedKind P w).hash k
end NS
namespace NS
open PySem PySem.Spec PyProof.Rows L2
def ask (m : Nat) (h : Int) (c : Nat) : SetTable.Probe := nth m (runAt m (SetTable.bits h % (m + 1)) (SetTable.bits h)) c
abbrev Lk := List (NestedKey × Addr)
section
variable {P : Program} {w : World} {A : Around} {E : Value → Shared → Prop} {s : Shared}
def ents (P : Program) (w : World) (L : Lk) : List (Int × Value) := L.map fun q => (nh P w q.1, Value.ref q.2)
structure SetN (P : Program) (w : World) (h : Heap) (a : Addr) (L : Lk) (es : Array (Int × Value)) (ep : Nat) (t : SetTable) : Prop where
  obj : ∃ o, h.get? a = some o ∧ o.ExactSet ∧ o.data = .set es ep t
  its : es.toList = ents P w L
  tab : TabOk t (L.map fun q => nh P w q.1)
  nd : (L.map Prod.fst).Nodup
  keys : ∀ q ∈ L, NIs P w h q.1 q.2
  led : w.params.followText "set-order" = true ∨ t.led = true
  room : L.length * 5 < t.mask * 3
  few : L.length < 64
variable {a : Addr} {L : Lk} {es : Array (Int × Value)} {ep : Nat} {t : SetTable}
theorem ents_len (L : Lk) : (ents P w L).length = L.length := by unfold ents; exact List.length_map ..
theorem SetN.size (R : SetN P w s.heap a L es ep t) : es.size = L.length := by
  rw [← ents_len (P := P) (w := w) L, ← R.its, Array.length_toList]
theorem SetN.places (R : SetN P w s.heap a L es ep t) : t.place.toList.length = L.length := by
  rw [Array.length_toList, R.tab.sz, List.length_map]
theorem SetN.at (R : SetN P w s.heap a L es ep t) {i : Nat} {q : NestedKey × Addr} (h : L[i]? = some q) : es[i]? = some (nh P w q.1, Value.ref q.2) := by
  have : es.toList[i]? = some (nh P w q.1, Value.ref q.2) := by rw [R.its, ents, List.getElem?_map, h]; rfl
  rwa [Array.getElem?_toList] at this
end
end NS
namespace NS
open PySem PySem.Spec PyProof.Rows L2
section
variable {P : Program} {w : World} {A : Around} {E : Value → Shared → Prop} {s : Shared}
variable {a : Addr} {L : Lk} {es : Array (Int × Value)} {ep : Nat} {t : SetTable}
structure SetF (P : Program) (w : World) (h : Heap) (a : Addr) (L : Lk) (es : Array (Int × Value)) (ep : Nat) (t : SetTable) : Prop where
  obj : ∃ o, h.get? a = some o ∧ o.ExactSet ∧ o.data = .set es ep t
  its : es.toList = ents P w L
  tab : TabOk t (L.map fun q => nh P w q.1)
  nd : (L.map Prod.fst).Nodup
  keys : ∀ q ∈ L, NIs P w h q.1 q.2
  led : w.params.followText "set-order" = true ∨ t.led = true
  few : L.length < 64
theorem SetF.size {h : Heap} (F : SetF P w h a L es ep t) : es.size = L.length := by
  rw [← ents_len (P := P) (w := w) L, ← F.its, Array.length_toList]
end
end NS
namespace NS
open PySem PySem.Spec PyProof.Rows L2
structure Once (ks L : Lk) : Prop where
  sub : ∀ q ∈ L, q ∈ ks
  all : ∀ q ∈ ks, q.1 ∈ L.map Prod.fst
  len : L.length ≤ ks.length
theorem Once.nil : Once [] [] := ⟨fun q h => h, (fun q h => by cases h), Nat.le_refl _⟩
section
variable {P : Program} {w : World} {A : Around} {E : Value → Shared → Prop} {s : Shared}
theorem SetN.keep {h h' : Heap} {a : Addr} {L : Lk} {es : Array (Int × Value)} {ep : Nat} {t : SetTable} (R : SetN P w h a L es ep t) (ha : ∀ o, h.get? a = some o → h'.get? a = some o) (ht : ∀ q ∈ L, NIs P w h' q.1 q.2) : SetN P w h' a L es ep t := by
  obtain ⟨o, ho, r⟩ := R.obj
  exact ⟨⟨o, ha o ho, r⟩, R.its, R.tab, R.nd, ht, R.led, R.room, R.few⟩
end
end NS
namespace NS
open PySem PySem.Spec PyProof.Rows L2 PySem.W Y
mutual
theorem nk_dp {K : PySem.W.Frag} {H : Hp} : ∀ {k : NestedKey} {v : V}, NK K H k v → Dp K H v k.data
  | _, _, .non => by rw [NestedKey.data]; exact .non
  | _, _, .int i => by rw [NestedKey.data]; exact .int i
  | _, _, .text x => by rw [NestedKey.data]; exact .str x
  | _, _, .tup h q => by rw [NestedKey.data]; exact .tup h (nks_dp q)
theorem nks_dp {K : PySem.W.Frag} {H : Hp} : ∀ {ks : List NestedKey} {vs : List V}, NKs K H ks vs → DpAll K H vs (NestedKey.datas ks)
  | _, _, .nil => by rw [NestedKey.datas]; exact .nil
  | _, _, .cons h q => by rw [NestedKey.datas]; exact .cons (nk_dp h) (nks_dp q)
end
section
variable {X : Cx}
def KeysAt (K : PySem.W.Frag) (H : Hp) (ks : Lk) : Prop := ∀ q ∈ ks, NK K H q.1 (.ref q.2) ∧ q.1.depth ≤ 8
theorem KeysAt.is {pins : List (Addr × Obj)} {σ : L2.St} {H : Hp} {s : Shared} (I : Inv X pins σ H s) {ks : Lk} (h : KeysAt X.K H ks) : ∀ q ∈ ks, NIs X.prog X.w s.heap q.1 q.2 := fun q hq => ⟨NK.is I (h q hq).1 rfl, (h q hq).2⟩
end
end NS
namespace NS
open PySem PySem.Spec PyProof.Rows L2 PySem.W Y
mutual
theorem nkP_one : ∀ {x y : P} {k : NestedKey}, nkP x = some k → nkP y = some k → x = y
  | .non, y, k, e, e' => by
    rw [nkP] at e; cases e
    cases y <;> (try rfl) <;> simp [nkP] at e'
  | .int i, y, k, e, e' => by
    rw [nkP] at e; cases e
    cases y <;> simp [nkP] at e'
    rw [e']
  | .str z, y, k, e, e' => by
    rw [nkP] at e; cases e
    cases y <;> simp [nkP] at e'
    rw [e']
  | .tup l, y, k, e, e' => by
    rw [nkP] at e
    obtain ⟨ks, e1, rfl⟩ := Option.map_eq_some_iff.mp e
    cases y with
    | tup m =>
      rw [nkP] at e'
      obtain ⟨ks', e2, e3⟩ := Option.map_eq_some_iff.mp e'
      injection e3 with e3
      subst e3
      rw [nkPs_one e1 e2]
    | _ => simp [nkP] at e'
theorem nkPs_one : ∀ {l m : List P} {ks : List NestedKey}, nkPs l = some ks → nkPs m = some ks → l = m
  | [], m, ks, e, e' => by
    rw [nkPs] at e; cases e
    cases m with
    | nil => rfl
    | cons y m =>
      rw [nkPs] at e'
      split at e' <;> simp at e'
  | x :: l, m, ks, e, e' => by
    rw [nkPs] at e
    split at e
    · rename_i k ks' e1 e2
      cases e
      cases m with
      | nil => rw [nkPs] at e'; cases e'
      | cons y m =>
        rw [nkPs] at e'
        split at e'
        · rename_i k2 ks2 f1 f2
          injection e' with e'
          injection e' with g1 g2
          subst g1 g2
          rw [nkP_one e1 f1, nkPs_one e2 f2]
        · cases e'
    · cases e
end
mutual
theorem toD_nk : ∀ {x : P} {k : NestedKey}, nkP x = some k → toD x = some k.data
  | .non, k, e => by rw [nkP] at e; cases e; rw [toD, NestedKey.data]
  | .int i, k, e => by rw [nkP] at e; cases e; rw [toD, NestedKey.data]
  | .str z, k, e => by rw [nkP] at e; cases e; rw [toD, NestedKey.data]
  | .tup l, k, e => by
    rw [nkP] at e
    obtain ⟨ks, e1, rfl⟩ := Option.map_eq_some_iff.mp e
    rw [toD, toDs_nk e1, NestedKey.data]
theorem toDs_nk : ∀ {l : List P} {ks : List NestedKey}, nkPs l = some ks → toDs l = some (NestedKey.datas ks)
  | [], ks, e => by rw [nkPs] at e; cases e; rw [toDs, NestedKey.datas]
  | x :: l, ks, e => by
    rw [nkPs] at e
    split at e
    · rename_i k ks' e1 e2
      cases e
      rw [toDs, toD_nk e1, toDs_nk e2, NestedKey.datas]
    · cases e
end
mutual
/-- the signs of a key tell it, among the alike -/
theorem toks_one : ∀ (a b : NestedKey) {r r' : List (Int ⊕ List Nat)}, alike a.data b.data = true → keyToks a.data ++ r = keyToks b.data ++ r' → a = b ∧ r = r'
  | .none, .none, r, r', _, h => by
    simp only [NestedKey.data, keyToks, List.nil_append] at h
    exact ⟨rfl, h⟩
  | .num i, .num j, r, r', _, h => by
    simp only [NestedKey.data, keyToks, List.cons_append, List.nil_append, List.cons.injEq, Sum.inl.injEq] at h
    exact ⟨by rw [h.1], h.2⟩
  | .text x, .text y, r, r', _, h => by
    simp only [NestedKey.data, keyToks, List.cons_append, List.nil_append, List.cons.injEq, Sum.inr.injEq] at h
    have e : x = y := by
      have h1 := h.1
      cases x
      cases y
      simpa using h1
    rw [e]
    exact ⟨rfl, h.2⟩
  | .tup ks, .tup ls, r, r', ha, h => by
    simp only [NestedKey.data, keyToks, alike] at h ha
    obtain ⟨e1, e2⟩ := toksAll_one ks ls ha h
    exact ⟨by rw [e1], e2⟩
  | .none, .num _, _, _, ha, _ => by simp [NestedKey.data, alike] at ha
  | .none, .text _, _, _, ha, _ => by simp [NestedKey.data, alike] at ha
  | .none, .tup _, _, _, ha, _ => by simp [NestedKey.data, alike] at ha
  | .num _, .none, _, _, ha, _ => by simp [NestedKey.data, alike] at ha
  | .num _, .text _, _, _, ha, _ => by simp [NestedKey.data, alike] at ha
  | .num _, .tup _, _, _, ha, _ => by simp [NestedKey.data, alike] at ha
  | .text _, .none, _, _, ha, _ => by simp [NestedKey.data, alike] at ha
  | .text _, .num _, _, _, ha, _ => by simp [NestedKey.data, alike] at ha
  | .text _, .tup _, _, _, ha, _ => by simp [NestedKey.data, alike] at ha
  | .tup _, .none, _, _, ha, _ => by simp [NestedKey.data, alike] at ha
  | .tup _, .num _, _, _, ha, _ => by simp [NestedKey.data, alike] at ha
  | .tup _, .text _, _, _, ha, _ => by simp [NestedKey.data, alike] at ha
theorem toksAll_one : ∀ (ks ls : List NestedKey) {r r' : List (Int ⊕ List Nat)}, alikeAll (NestedKey.datas ks) (NestedKey.datas ls) = true → keyToksAll (NestedKey.datas ks) ++ r = keyToksAll (NestedKey.datas ls) ++ r' → ks = ls ∧ r = r'
  | [], [], r, r', _, h => by
    simp only [NestedKey.datas, keyToksAll, List.cons_append, List.nil_append, List.cons.injEq] at h
    exact ⟨rfl, h.2⟩
  | [], _ :: _, r, r', _, h => by
    simp [NestedKey.datas, keyToksAll] at h
  | _ :: _, [], r, r', _, h => by
    simp [NestedKey.datas, keyToksAll] at h
  | k :: ks, l :: ls, r, r', ha, h => by
    simp only [NestedKey.datas, keyToksAll, alikeAll, Bool.and_eq_true, List.cons_append, List.append_assoc, List.cons.injEq, true_and] at h ha
    obtain ⟨e1, e2⟩ := toks_one k l ha.1 h
    obtain ⟨e3, e4⟩ := toksAll_one ks ls ha.2 e2
    exact ⟨by rw [e1, e3], e4⟩
end
end NS
namespace Y
open PySem PySem.Spec PyProof.Rows L2
structure SMet (K : PySem.W.Frag) (C : Addr) (m : Str) (p g : Addr) : Prop where
  at_ : PySem.W.findCls K (.ref C) (.type "type") m = some (.get (.builtin "staticmethod.__get__") (.ref p) .none (.ref C))
  rc : ∃ rest, PySem.W.recIn K p "staticmethod" = some (.ref g :: rest)
structure StaM (K : PySem.W.Frag) (C : Addr) (m : Str) : Prop where
  rd : ClX.CRead K C (.type "type")
  cm : SMet K C m (He.ma K C m) (He5.wf K C "staticmethod" m)
end Y
namespace Y
open PySem PySem.Spec PyProof.Rows L2 GenW
inductive LR where
  | ok (f : Fl) (σ : Sg) (st : List Cell) (ys : List P) | no (ys : List P)
abbrev LMn := Sg → List Cell → List P → LR
def LR.ys : LR → List P
  | .ok _ _ _ ys => ys
  | .no ys => ys
def LR.then (r : LR) (k : Sg → List Cell → List P → LR) : LR := match r with
  | .ok .nx σ st ys => k σ st ys
  | r => r
def SR.lr (r : SR) (ys : List P) : LR := match r with
  | .ok f σ st => .ok f σ st ys
  | _ => .no ys
def Mono (m : LMn) : Prop := ∀ σ st ys, ys <+: (m σ st ys).ys
structure Gf where
  P : Program
  w : World
  K : PySem.W.Frag
  mg : Str → Option Value
  base : Heap
  cl : Cls
  N : List Str
  qual : Str
  scope : Scope
  f : Addr
  cd : Value
  A : Around
  outer : List Env
  n0 : Nat
abbrev Gf.env (g : Gf) : Env := envOfC g.qual g.scope g.n0 g.f g.cd
structure Ix where
  s0 : Shared
  H0 : Hp
  pn : List (Addr × Obj)
  E0 : En
  ρ0 : List Addr
  i : Nat
def Gf.X (g : Gf) (x : Ix) : Cx := gcxOf g.P g.w g.K g.mg g.base g.N g.qual g.scope g.f g.cd g.A g.outer x.s0 x.H0 (fun _ _ _ => False) x.pn
def Gf.Ok (g : Gf) (x : Ix) : Prop := x.s0.heap.objs.size = g.n0
section
variable {g : Gf} {x x2 : Ix}
theorem Gf.AX (h : g.Ok x) : (g.X x).A = g.A.deeper g.env := by
  show g.A.deeper (envOfC g.qual g.scope x.s0.heap.objs.size g.f g.cd) = _
  rw [h]
end
structure Game where
  Wk : Shared → Ix → Prop
  yf : List P
  Bud : Nat
  fin : Bool
def GSt (g : Gf) (x : Ix) (ρ : List Addr) (G : Hp) (st : List Cell) (τ : L2.St) (H : Hp) (s : Shared) : Prop :=
  g.Ok x ∧ (bs g.K g.cl x.E0).Rel ρ G st H ∧ Inv (g.X x) [] τ H s ∧ Sub x.E0.G0 G ∧ x.ρ0 <+: ρ
def Bd (W : Game) (n c : Nat) : Prop := n + c = W.Bud ∧ 1 ≤ n
def YP (g : Gf) (W : Game) : Protocol := fun n s₀ v s kap =>
  ∃ x ρ G σ st τ H z xv, W.Wk s₀ x ∧ GSt g x ρ G st τ H s ∧ RS g.K g.cl ρ G σ τ ∧ RelV xv v ∧ RP g.K g.cl G z xv ∧ W.yf[x.i]? = some z ∧ n + 1 + x.i = W.Bud ∧
    (1 ≤ n → ∀ s2 x2 G2 H2, W.Wk s2 x2 → x2.i = x.i + 1 → GSt g x2 ρ G2 st τ H2 s2 → RS g.K g.cl ρ G2 σ τ → kap (.send .none) s2)
def RE (g : Gf) (W : Game) : GenEnd := fun n s₀ r s =>
  ((r = .ok (.ret .none) ∨ r = .ok .next) ∧ ∃ x ρ G st τ H, W.Wk s₀ x ∧ GSt g x ρ G st τ H s ∧ x.i = W.yf.length ∧ W.fin = true ∧ n + x.i = W.Bud) ∨ ∃ e, r = .error e ∧ False
structure JCL (g : Gf) (c : Code) (fs : List Frame) (gd : Bool → Bool) : Prop where
  over : g.A.over c fs = g.A.deeper g.env
  split : splitAtGen fs = none
  guard : fs.any Frame.guarded = false
  gd : gd false = false
def FlR (g : Gf) (ρ : List Addr) (G : Hp) (σ : Sg) (τ : L2.St) : Fl → Flow → Prop
  | .nx, fl => fl = .next ∧ RS g.K g.cl ρ G σ τ
  | .bk, fl => fl = .brk ∧ RS g.K g.cl ρ G σ τ
  | .ct, fl => fl = .cont ∧ RS g.K g.cl ρ G σ τ
  | .rt w, fl => ∃ v u, RW g.K g.cl ρ G w v ∧ RelV v u ∧ fl = .ret u
def Acc (g : Gf) (W : Game) (c : Code) (fs : List Frame) (k : Flow → Sem PySem.Fin) : LR → Prop
  | .ok f σ st ys => ys <+: W.yf ∧ ∀ n s₀ s x ρ G τ H fl, Bd W n ys.length → x.i = ys.length → W.Wk s₀ x → GSt g x ρ G st τ H s → FlR g ρ G σ τ f fl → Seg (model g.P g.w) g.A (RE g W) (YP g W) n s₀ c (k fl) fs s
  | .no ys => ys <+: W.yf ∧ W.Bud ≤ ys.length
theorem Acc.pre {g : Gf} {W : Game} {c : Code} {fs : List Frame} {k : Flow → Sem PySem.Fin} {r : LR} (h : Acc g W c fs k r) : r.ys <+: W.yf := by
  cases r <;> exact h.1
def JX (g : Gf) (W : Game) (c : Code) (fs : List Frame) (j : Value → Sem PySem.Fin) : Prop :=
  ∀ n s₀ e s x, g.Ok x → (g.X x).xe e s → Seg (model g.P g.w) g.A (RE g W) (YP g W) n s₀ c (j e) fs s
def TL (g : Gf) (m : LMn) (t : (Flow → Sem PySem.Fin) → (Value → Sem PySem.Fin) → (Bool → Bool) → (List Value → List Value) → Sem PySem.Fin) : Prop :=
  ∀ (W : Game) (n : Nat) (s₀ s : Shared) (c : Code) (fs : List Frame) (k : Flow → Sem PySem.Fin) (j : Value → Sem PySem.Fin) (gd : Bool → Bool) (lv : List Value → List Value) (x : Ix) (ρ : List Addr) (G : Hp) (σ : Sg) (st : List Cell) (ys : List P) (τ : L2.St) (H : Hp),
    JCL g c fs gd → Bd W n ys.length → x.i = ys.length → W.Wk s₀ x → GSt g x ρ G st τ H s → RS g.K g.cl ρ G σ τ → Acc g W c fs k (m σ st ys) → JX g W c fs j → Seg (model g.P g.w) g.A (RE g W) (YP g W) n s₀ c (t k j gd lv) fs s
structure YL (g : Gf) (m : LMn) (e : Stmt) : Prop where
  mono : Mono m
  run : TL g m fun k j gd lv => (exec e g.env).wrap k j gd lv
structure YLs (g : Gf) (m : LMn) (e : List Stmt) : Prop where
  mono : Mono m
  run : TL g m fun k j gd lv => (execs e g.env).wrap k j gd lv
abbrev WN : WX := WE (fun _ _ _ => False)
end Y
namespace Y
open PySem PySem.Spec PyProof.Rows L2 GenW
def cut (h : Heap) (n : Nat) : Heap := ⟨h.objs.extract 0 n, h.life⟩
def cutH (H : Hp) (n : Nat) : Hp := fun a => if a < n then H a else none
def Gf.own (g : Gf) : List Addr := g.n0 :: (g.env.cells.map (·.1)).filterMap fun y => g.env.cells.lookup y
theorem Gf.own_of {g : Gf} {a : Addr} (h : a ∈ g.own) : a = g.n0 ∨ ∃ y, g.env.cells.lookup y = some a := by
  rcases List.mem_cons.mp h with e | e
  · exact .inl e
  · obtain ⟨y, _, e⟩ := List.mem_filterMap.mp e
    exact .inr ⟨y, e⟩
def Kept (g : Gf) (s s2 : Shared) (H2 : Hp) : Prop := ∀ a ∈ g.own, H2 a = none ∧ ∀ o, s.heap.get? a = some o → s2.heap.get? a = some o
end Y
namespace Y
open PySem PySem.Spec PyProof.Rows L2 GenW
def AccE (W : Game) : LR → Prop
  | .ok .nx _ _ ys => ys = W.yf ∧ W.fin = true
  | .ok (.rt (.p .non)) _ _ ys => ys = W.yf ∧ W.fin = true
  | .no ys => ys = W.yf ∧ W.Bud ≤ ys.length
  | _ => False
abbrev sgN (ws : List W) (np N : Nat) : Sg := ws.map some ++ List.replicate (N - np) none
def MadeL (P : Program) (w : World) (K : PySem.W.Frag) (mg : Str → Option Value) (base : Heap) (cl : Cls) (k : Nat) (outer : List Env) (H : Hp) (s : Shared) (m : LMn) (np Nn : Nat) (vs : List V) (u : Value) (s' : Shared) : Prop :=
  ∃ (a : Addr) (go : Obj) (gi : Nat) (c : Code) (N : List Str) (qual : Str) (scope : Scope) (f : Addr) (cd : Value), u = .ref a ∧ s.heap.objs.size ≤ a ∧ s'.heap.get? a = some go ∧ (∀ v, go.data ≠ .cell v) ∧ (∀ h : Heap, h.get? a = some go → h.IsGen a gi) ∧
    s'.gens[gi]? = some (.fresh c) ∧ s'.os = s.os ∧ AllBare s'.gens ∧ s'.heap.NoLimit ∧ (∀ b o, s.heap.get? b = some o → s'.heap.get? b = some o) ∧
    ∀ A, Room k A → A.frames = some outer → ∀ g : Gf, g = ⟨P, w, K, mg, base, cl, N, qual, scope, f, cd, A, outer, s.heap.objs.size⟩ →
      (∀ b ∈ g.own, s.heap.objs.size ≤ b ∧ b ≠ a ∧ ∃ o, s'.heap.get? b = some o) ∧ (∃ x0 τ0, g.Ok x0 ∧ Inv (g.X x0) [] τ0 H s' ∧ (∀ ws G, ws.length = np → RPs K cl G ws vs → RS K cl [] G (sgN (ws.map W.p) np Nn) τ0) ∧
      ∀ (W : Game) (s2 : Shared) (x : Ix) (G H2 : Hp) (σ0 : Sg), W.Wk s2 x → x.i = 0 → 1 ≤ W.Bud → GSt g x [] G [] τ0 H2 s2 → RS K cl [] G σ0 τ0 → AccE W (m σ0 [] []) → Seg (model P w) A (RE g W) (YP g W) W.Bud s2 c ((model P w).den c) [] s2)
structure GenL (P : Program) (w : World) (K : PySem.W.Frag) (mg : Str → Option Value) (base : Heap) (cl : Cls) (k : Nat) (f : Addr) (fd : FuncData) (ps : List Str) (Nn : Nat) (m : LMn) : Prop where
  run : ∀ (A : Around) (outer : List Env) (s : Shared) (H : Hp) (args : Args) (us : List Value) (vs : List V), Room k A → Env0 P w K mg base A outer s H → BindsTo s fd args (ps.zip us) → Vals vs us → vs.length = ps.length →
    codeAny (model P w) A (.call (.ref f) args) (fun r s' => match r with | .ok (.ret u) => MadeL P w K mg base cl k outer H s m ps.length Nn vs u s' | _ => False) s
theorem rs_start {K : PySem.W.Frag} {cl : Cls} {G : Hp} {ws : List P} {vs : List V} {np : Nat} {N : List Str} (hl : ws.length = np) (hN : np ≤ N.length) (r : RPs K cl G ws vs) : RS K cl [] G (sgN (ws.map W.p) np N.length) (L2.start N vs) := by
  have lv := r.length
  unfold L2.start sgN
  refine ⟨by simp [hl, ← lv], fun i w' e => ?_⟩
  rcases app_cut e with ⟨h1, h2⟩ | ⟨h1, h2⟩
  · rw [List.length_map, List.length_map] at h1
    rw [List.getElem?_map] at h2
    cases q : (ws.map W.p)[i]? with
    | none => rw [q] at h2; cases h2
    | some u =>
      rw [q] at h2
      have h2 : some (some u) = some (some w') := h2
      cases h2
      obtain ⟨v, ev, rv⟩ := (RWs.of_pures (ρ := []) r).get q
      refine ⟨v, ?_, rv⟩
      rw [List.getElem?_append_left (by rw [List.length_map, ← lv]; exact h1), List.getElem?_map, ev]; rfl
  · rw [List.getElem?_replicate] at h2
    split at h2 <;> cases h2
theorem genL_of {P : Program} {w : World} {K : PySem.W.Frag} {mg : Str → Option Value} {base : Heap} {cl : Cls} {k : Nat} {f : Addr} {name qual : Str} {params : Arguments} {body : List Stmt} {scope : Scope} {dV kV doc pm cdv ct oc : Value} {an od : Option Addr}
    {osl : Array (Option Value)} {N ps : List Str} {m : LMn} (lk : K.lookup f = some ⟨oc, od, .func (PySem.W.fnOf name qual params body scope dV kV doc pm an cdv ct), osl⟩) (hcd : PySem.W.codeIn K cdv qual = true) (S : GScope N ps scope)
    (hbody : ∀ (A : Around) (outer : List Env) (n0 : Nat), Room k (A.deeper (envOfC qual scope n0 f cdv)) → YLs ⟨P, w, K, mg, base, cl, N, qual, scope, f, cdv, A, outer, n0⟩ m body) :
    GenL P w K mg base cl (k + 1) f (PySem.W.fnOf name qual params body scope dV kV doc pm an cdv ct) ps N.length m := by
  refine ⟨fun A outer s H args us vs hr e0 hb r hl => ?_⟩
  have KX : K.In s.heap := e0.mod.kin.keeps fun b o e => (e0.bs b o e).1
  have lim : s.heap.NoLimit := e0.mod.nolimit.keeps fun b o e => (e0.bs b o e).1
  have kinds : ∀ y ∈ ps.zip us, scope.names.lookup y.1 = some .local ∨ (scope.names.lookup y.1 = some .cell ∧ ((cellsFrom (s.heap.objs.size + 1) scope.names []).lookup y.1).isSome = true) := fun ⟨n, v⟩ hy =>
    (S.par n (List.of_mem_zip hy).1).elim .inl fun q => .inr ⟨q, PySem.W.cellsFrom_some _ _ _ (.inl q)⟩
  refine codeAny_call_generator hr.depth (KX _ _ lk) rfl S.co S.gen rfl (PySem.W.codeRec_of KX hcd) (hb _ _ _ _ ?_)
  refine wpAny_newFunctionEnv_cells S.kind kinds fun env he s1 x => ?_
  subst he
  have lim1 : s1.heap.NoLimit := lim.keeps x.toInCall.keep
  refine ⟨lim1, ?_⟩
  obtain ⟨h1, tk, es1, _⟩ := x.done
  have os1 : s1.os = s.os := by rw [es1]
  have gen1 : s1.gens = s.gens := by rw [es1]
  have lt1 : s.heap.objs.size < s1.heap.objs.size := x.toInCall.ns.lt
  have kp1 : ∀ b o, s.heap.get? b = some o → s1.heap.get? b = some o := x.toInCall.keep
  generalize hL : s1.heap.objs.size = L at lt1
  have main : ∀ (go : Obj) (nm qn : Value) (tk2 : Nat), go.cls = .type "generator" → go.data = .fields #[.int s1.gens.size 0, nm, qn] → go.slots = #[] → (∀ h : Heap, (h.push go).get? h.objs.size = some go) →
      MadeL P w K mg base cl (k + 1) outer H s m ps.length N.length vs (.ref L) { s1 with gens := s1.gens.push (.fresh (.func body (envOfC qual scope s.heap.objs.size f cdv))), toks := tk2, heap := s1.heap.push go } := by
    intro go nm qn tk2 hgc hgd0 hgs hgp
    have isg : ∀ h : Heap, h.get? L = some go → h.IsGen L s1.gens.size := fun h e => ⟨go, nm, qn, e, hgc, hgd0, hgs⟩
    have pushed : (s1.heap.push go).get? L = some go := by rw [← hL]; exact hgp _
    have ab : AllBare (s1.gens.push (.fresh (.func body (envOfC qual scope s.heap.objs.size f cdv)))) := AllBare.push (by rw [gen1]; exact e0.bare) rfl
    refine ⟨L, go, s1.gens.size, _, N, qual, scope, f, cdv, rfl, by omega, pushed, (fun v q => by rw [hgd0] at q; cases q), isg, Array.getElem?_push_size .., os1, ab, lim1.keeps fun b o e => Heap.get?_push_of_some _ e, fun b o e => Heap.get?_push_of_some _ (kp1 b o e), ?_⟩
    intro Aw hrw hfr g hg
    have e0w : Env0 P w K mg base Aw outer s H := ⟨hfr, e0.mod, e0.bs, e0.bsz, e0.funs, e0.frf, e0.hok, e0.bare⟩
    have I1 : Inv (gcxOf P w K mg base N qual scope f cdv Aw outer s H (fun _ _ _ => False) []) [] (L2.start N vs) H s1 := inv_startG S hrw.hd e0w hl r x
    have I2 : Inv (gcxOf P w K mg base N qual scope f cdv Aw outer s H (fun _ _ _ => False) []) [] (L2.start N vs) H { s1 with gens := s1.gens.push (.fresh (.func body (envOfC qual scope s.heap.objs.size f cdv))), toks := tk2, heap := s1.heap.push go } :=
      I1.call' (ch := []) rfl (Un.kept fun b o e => Heap.get?_push_of_some _ e) (I1.hok.kept fun b o e => Heap.get?_push_of_some _ e) ab fun b z => by simp at z
    have hln : ps.length ≤ N.length := by have := congrArg List.length S.pre; rw [List.length_take] at this; omega
    refine ⟨fun b hb => ?_, ⟨s, H, [], ⟨H, 0, H⟩, [], 0⟩, L2.start N vs, by rw [hg]; rfl, by rw [hg]; exact I2, fun ws G hw hr2 => rs_start hw hln hr2, ?_⟩
    · have lt_L : ∀ o, s1.heap.get? b = some o → b < L := fun o e => by rw [← hL]; exact Heap.lt_size e
      rcases Gf.own_of hb with e | ⟨y, e⟩
      · rw [hg] at e
        have e : b = s.heap.objs.size := e
        obtain ⟨o, _, _, ho, _⟩ := x.toInCall.ns
        rw [e]
        exact ⟨Nat.le_refl _, Nat.ne_of_lt lt1, o, Heap.get?_push_of_some _ ho⟩
      · rw [hg] at e
        have e' : (gcxOf P w K mg base N qual scope f cdv Aw outer s H (fun _ _ _ => False) []).env.cells.lookup y = some b := e
        obtain ⟨v, ob, ho, _⟩ := I1.cell y b e'
        exact ⟨I1.ok.cab y b rfl e', Nat.ne_of_lt (lt_L ob ho), ob, Heap.get?_push_of_some _ ho⟩
    intro W s2 xx G H2 σ0 hw hi hbud hgs S0 acc
    have ht := hbody Aw outer s.heap.objs.size (hrw.deeper _)
    rw [← hg] at ht
    have ev : g.env = envOfC qual scope s.heap.objs.size f cdv := by rw [hg]
    have gP : g.P = P := by rw [hg]
    have gw : g.w = w := by rw [hg]
    have gA : g.A = Aw := by rw [hg]
    have key := ht.run W W.Bud s2 s2 (.func body (envOfC qual scope s.heap.objs.size f cdv)) [] (fun f => .pure (.done (.ret (match f with | .ret v => v | _ => .none)))) (fun e => (leaving (envOfC qual scope s.heap.objs.size f cdv) e).wrap (fun _ => .raise e) .raise id id) id id
      xx [] G σ0 [] [] _ H2 ⟨by rw [gA, ev]; exact over_func, rfl, rfl, rfl⟩ ⟨Nat.add_zero _, hbud⟩ hi hw hgs (by rw [hg]; exact S0) ?_ ?_
    · refine seg_func ?_
      rw [gP, gw, gA, ev] at key
      exact key
    · generalize m σ0 [] [] = r at acc
      cases r with
      | no ys => exact ⟨by rw [acc.1]; exact List.prefix_refl _, acc.2⟩
      | ok fl σ st ys =>
        cases fl with
        | nx =>
          refine ⟨by rw [acc.1]; exact List.prefix_refl _, fun n s₀ s3 x' ρ' G' τ' H' fl hn hi' hw' hg' hf => ?_⟩
          obtain ⟨rfl, _⟩ := hf
          exact seg_end (.ok (.ret .none)) (.inl ⟨.inl rfl, x', ρ', G', st, τ', H', hw', hg', by rw [hi', acc.1], acc.2, by rw [hi']; exact hn.1⟩)
        | rt u =>
          cases u with
          | r i => exact acc.elim
          | p y =>
            cases y with
            | non =>
              refine ⟨by rw [acc.1]; exact List.prefix_refl _, fun n s₀ s3 x' ρ' G' τ' H' fl hn hi' hw' hg' hf => ?_⟩
              obtain ⟨v, u, hv, hr, rfl⟩ := hf
              cases hv
              have eu : u = Value.none := hr
              subst eu
              exact seg_end (.ok (.ret .none)) (.inl ⟨.inl rfl, x', ρ', G', st, τ', H', hw', hg', by rw [hi', acc.1], acc.2, by rw [hi']; exact hn.1⟩)
            | _ => exact acc.elim
        | bk => exact acc.elim
        | ct => exact acc.elim
    · intro n s₀ e s3 x' hok hx
      refine seg_wrap ?_
      have hx : wpAny (model g.P g.w) (g.A.deeper (envOfC g.qual g.scope x'.s0.heap.objs.size g.f g.cd)) (leaving (envOfC g.qual g.scope x'.s0.heap.objs.size g.f g.cd) e) (fun _ s'' => CX g.P g.w g.outer x'.H0 x'.s0 (fun _ _ _ => False) e s'' ∧ ∀ p ∈ x'.pn, s''.heap.get? p.1 = some p.2) (fun _ _ => False) s3 := hx
      have hok : x'.s0.heap.objs.size = g.n0 := hok
      rw [hok] at hx
      have ev2 : envOfC g.qual g.scope g.n0 g.f g.cd = envOfC qual scope s.heap.objs.size f cdv := ev
      rw [ev2] at hx
      rw [over_func]
      refine wpAny_mono hx ?_ ?_
      · intro _ s4 q
        obtain ⟨⟨_, _, _, _, _, _, _, _, _, _, _, _, q⟩, _⟩ := q
        exact q.elim
      · exact fun _ s4 q => q.elim
  exact hL ▸ main _ _ _ _ rfl rfl rfl fun h => Heap.get?_push_size _ rfl
structure Lk (P : Program) (w : World) (K : PySem.W.Frag) (mg : Str → Option Value) (base : Heap) (cl : Cls) (k : Nat) (f : Addr) (ps : List Str) (Nn : Nat) (m : LMn) : Prop where
  ex : ∃ fd, GenL P w K mg base cl k f fd ps Nn m ∧ Binds K fd ps []
  kp : PySem.W.keepIn K (.ref f) = true
structure FXL (k : Nat) (g : Gf) : Prop where
  gx : ∀ x, g.Ok x → GX g.K (g.X x)
  tk : ∀ x, g.Ok x → Takes (g.X x) WN
  own : ∀ x, g.Ok x → PassesOwn (model (g.X x).prog (g.X x).w) (g.X x).A (g.X x).env (g.X x).xe
  rm : ∀ x, g.Ok x → Room k (g.X x).A
section
variable {K : PySem.W.Frag} {cl : Cls}
theorem Lk.of {P : Program} {w : World} {mg : Str → Option Value} {base : Heap} {N ps : List Str} {x qual : Str} {params : Arguments} {body : List Stmt} {scope : Scope} {f : Addr} {k : Nat} {m : LMn}
    (F : ∃ fd, FunD K x qual params body scope [] [] f fd) (S : GScope N ps scope) (bd : ∀ (kV doc pm : Value) (an : Option Addr) (cdv ct : Value) (us : List Value), us.length = ps.length → bindArgs (PySem.W.fnOf x qual params body scope .none kV doc pm an cdv ct) ⟨us, []⟩ = pure (ps.zip us))
    (hb : ∀ (cd : Value) (A : Around) (outer : List Env) (n0 : Nat), FXL k ⟨P, w, K, mg, base, cl, N, qual, scope, f, cd, A, outer, n0⟩ → YLs ⟨P, w, K, mg, base, cl, N, qual, scope, f, cd, A, outer, n0⟩ m body) :
    Lk P w K mg base cl (k + 1) f ps N.length m := by
  obtain ⟨fd, F⟩ := F
  refine ⟨⟨fd, ?_, F.bindsN bd⟩, F.kp⟩
  obtain ⟨oc, od, dV, kV, doc, pm, an, cdv, ct, osl, rfl, lk, hcd, _, _⟩ := F.ex
  refine genL_of lk hcd S fun A outer n0 hr => hb cdv A outer n0 ⟨fun y hy => ?_, fun y hy => takes_gcx, fun y hy => owns_gcx, fun y hy => ?_⟩
  · have eA := Gf.AX hy
    refine ⟨rfl, rfl, S.nd, ?_, ?_⟩
    · rw [eA]
      have := hr.un
      show (A.deeper (envOfC qual scope n0 f cdv)).units + 65 < cLine
      omega
    · rw [eA]; exact hr.hd
  · rw [Gf.AX hy]
    exact hr
end
end Y
namespace Y
open PySem PySem.Spec PyProof.Rows L2 GenW
section
variable {K : PySem.W.Frag} {cl : Cls} {E0 E1 : En} {ρ ρg ρg' ρ' : List Addr} {G G' : Hp} {st stg stg' st' : List Cell} {H H' : Hp}
def woE (H : Hp) (ρg : List Addr) (G : Hp) : En := ⟨fun b => if b ∈ ρg then none else strip H b, 0, G⟩
theorem woE_in {b : Addr} (h : b ∈ ρg) : (woE H ρg G).H0 b = none := if_pos h
theorem woE_out {b : Addr} (h : b ∉ ρg) : (woE H ρg G).H0 b = strip H b := if_neg h
theorem woE_some {b : Addr} {u : HO} (h : (woE H ρg G).H0 b = some u) : b ∉ ρg ∧ H b = some u ∧ NT u := by
  by_cases e : b ∈ ρg
  · rw [woE_in e] at h; cases h
  · rw [woE_out e] at h; exact ⟨e, strip_to h⟩
theorem Rel.wake (R : Rel K cl E1 ρg G stg H) : Rel K cl (woE H ρg G) ρg G stg H := by
  refine ⟨R.len, R.nd, R.cell, R.sep, R.sub, fun a u e _ => (woE_some e).2.1, fun i a _ e => woE_in (List.mem_of_getElem? e), Nat.zero_le _, fun a o e => .inl e, fun a u e => (woE_some e).2.2, R.gnt, R.tabs⟩
def Dsj (E0 : En) (ρ ρg : List Addr) : Prop := ∀ b ∈ ρg, (∀ j : Nat, ρ[j]? ≠ some b) ∧ E0.H0 b = none
def trk (H : Hp) (L : List Addr) (h : Heap) : Hp := fun b => if b ∈ L then (h.get? b).map (exq b) else H b
theorem trk_in {L : List Addr} {h : Heap} {b : Addr} (m : b ∈ L) {o : Obj} (e : h.get? b = some o) : trk H L h b = some (exq b o) := by
  unfold trk; rw [if_pos m, e]; rfl
theorem trk_out {L : List Addr} {h : Heap} {b : Addr} (m : b ∉ L) : trk H L h b = H b := if_neg m
def bodyE (E0 : En) (Hb : Hp) (L ρg : List Addr) (G : Hp) : En := ⟨fun b => if b ∈ L ++ ρg then Hb b else E0.H0 b, E0.n0, G⟩
theorem Rel.body {L : List Addr} {h : Heap} (R : Rel K cl E0 ρ G st H) (Rg : Rel K cl E1 ρg G stg H) (d : Dsj E0 ρ ρg) (hL : ∀ b ∈ L, H b = none ∧ ∃ o, h.get? b = some o) : Rel K cl (bodyE E0 (trk H L h) L ρg G) ρ G st (trk H L h) := by
  have off : ∀ a u, H a = some u → a ∉ L := fun a u e m => by rw [(hL a m).1] at e; cases e
  have up : ∀ a u, H a = some u → trk H L h a = some u := fun a u e => by rw [trk_out (off a u e)]; exact e
  have at_ : ∀ (i : Nat) a, ρ[i]? = some a → a ∉ L ++ ρg := fun i a e m => by
    rcases List.mem_append.mp m with m | m
    · obtain ⟨o, q⟩ := R.there e
      exact off a o q m
    · exact (d a m).1 i e
  have hin : ∀ a, a ∈ L ++ ρg → (bodyE E0 (trk H L h) L ρg G).H0 a = trk H L h a := fun a m => if_pos m
  have hout : ∀ a, a ∉ L ++ ρg → (bodyE E0 (trk H L h) L ρg G).H0 a = E0.H0 a := fun a m => if_neg m
  refine ⟨R.len, R.nd, fun i c a e1 e2 => ?_, R.sep, fun a u e => up a u (R.sub a u e), fun a u e q => ?_, fun i a hi e => ?_, R.n0, fun a o e => .inl e, fun a u e => ?_, R.gnt, fun q hq => (R.tabs q hq).ext up⟩
  · obtain ⟨o, q⟩ := R.there e2
    exact (R.cell i c a e1 e2).mono (List.prefix_refl _) (Sub.refl _) ((up a o q).trans q.symm)
  · by_cases m : a ∈ L ++ ρg
    · rw [hin a m] at e; exact e
    · rw [hout a m] at e
      exact up a u (R.old a u e q)
  · rw [hout a (at_ i a e)]
    exact R.new i a hi e
  · by_cases m : a ∈ L ++ ρg
    · rw [hin a m] at e
      by_cases m2 : a ∈ L
      · obtain ⟨o, q⟩ := (hL a m2).2
        rw [trk_in m2 q] at e
        cases e
        exact fun ps z => nomatch z
      · rw [trk_out m2] at e
        have m3 : a ∈ ρg := (List.mem_append.mp m).resolve_left m2
        obtain ⟨j, hj⟩ := List.getElem?_of_mem m3
        intro ps z
        subst z
        exact (Rg.tblF e).1 j hj
    · rw [hout a m] at e
      exact R.ent a u e
end
end Y
namespace Y
open PySem PySem.Spec PyProof.Rows L2 GenW
structure Lp where
  K : PySem.W.Frag
  cl : Cls
  X : Cx
  Wx : WX
  E0 : En
  pins : List (Addr × Obj)
  ρ1 : List Addr
  G1 : Hp
  kont : Nat → Sg → List Cell → SR
  D : Ends
  g : Gf
  a : Addr
  go : Obj
  gi : Nat
  xs : List Addr
  yf : List P
  fin : Bool
structure Cn (L : Lp) (i : Nat) (ρ : List Addr) (G : Hp) (σ : Sg) (st : List Cell) (τ : L2.St) (H : Hp) (s : Shared) : Prop where
  pre : L.ρ1 <+: ρ
  sub : Sub L.G1 G
  rel : (bs L.K L.cl L.E0).Rel ρ G st H
  rs : RS L.K L.cl ρ G σ τ
  inv : Inv L.X L.pins τ H s
  aft : AftS (bs L.K L.cl L.E0) ρ G (L.kont i σ st) L.D L.Wx
def Lp.game (L : Lp) : Game where
  Wk := fun s₀ x => ∃ ρ G σ st τ H, Cn L x.i ρ G σ st τ H s₀ ∧ x.s0 = { s₀ with heap := cut s₀.heap L.g.n0 } ∧ x.H0 = cutH H L.g.n0 ∧ x.pn = pinsAt (L.a :: L.xs) s₀.heap ∧ x.E0 = woE H x.ρ0 G ∧ Dsj L.E0 ρ x.ρ0
  yf := L.yf
  Bud := if L.fin = true then L.yf.length + 1 else L.yf.length
  fin := L.fin
structure LpOk (L : Lp) : Prop where
  eP : L.g.P = L.X.prog
  ew : L.g.w = L.X.w
  eK : L.g.K = L.K
  ecl : L.g.cl = L.cl
  eo : L.g.outer = L.X.stack
  emg : L.g.mg = L.X.mg
  eb : L.g.base = L.X.base
  XK : L.X.K = L.K
  eA : L.g.A.frames = some L.X.stack
  I1 : ∃ τ1 H1 sc, Inv L.X L.pins τ1 H1 sc ∧ sc.heap.objs.size = L.g.n0
  isg : ∀ h : Heap, h.get? L.a = some L.go → h.IsGen L.a L.gi
  ngo : ∀ v, L.go.data ≠ .cell v
  ya : L.g.n0 ≤ L.a ∧ L.a ∉ L.g.own
  own : ∀ b ∈ L.g.own, L.g.n0 ≤ b
  yx : ∀ b ∈ L.xs, L.g.n0 ≤ b ∧ b ∉ L.g.own ∧ b ≠ L.a
structure Obs (L : Lp) (H : Hp) (s : Shared) : Prop where
  a : s.heap.get? L.a = some L.go ∧ H L.a = none
  x : ∀ b ∈ L.xs, H b = none ∧ ∃ o, s.heap.get? b = some o ∧ ∀ v, o.data ≠ .cell v
structure Asl (L : Lp) (i : Nat) (ρg : List Addr) (σg : Sg) (stg : List Cell) (τg : L2.St) (gs : GenState) (G H : Hp) (s : Shared) : Prop where
  cells : ∃ E', Rel L.K L.cl E' ρg G stg H
  rs : RS L.K L.cl ρg G σg τg
  inv : ∃ xp sp Hp, L.g.Ok xp ∧ Inv (L.g.X xp) [] τg Hp sp ∧ Kept L.g sp s H ∧ ∀ b ∈ L.g.own, ∃ o, sp.heap.get? b = some o
  gen : s.gens[L.gi]? = some gs
  bare : gs.bare = true
  go : i < L.game.Bud → ∀ s2 x2 G2 H2, L.game.Wk s2 x2 → x2.i = i → GSt L.g x2 ρg G2 stg τg H2 s2 → RS L.K L.cl ρg G2 σg τg → gs.Goes (model L.g.P L.g.w) L.g.A (RE L.g L.game) (YP L.g L.game) (L.game.Bud - i) (.send .none) s2
end Y
namespace Y
open PySem PySem.Spec PyProof.Rows L2 GenW GT
def LR.src (r : LR) : List P × Bool := match r with
  | .ok .nx _ _ ys => (ys, true)
  | .ok (.rt (.p .non)) _ _ ys => (ys, true)
  | .no ys => (ys, false)
  | _ => ([], false)
section
variable {L : Lp} {i : Nat} {ρ ρg : List Addr} {G H : Hp} {σ σg : Sg} {st stg : List Cell} {τ τg : L2.St} {gs : GenState} {s : Shared}
def Lp.obs (L : Lp) : List Addr := L.a :: (L.g.own ++ L.xs)
end
end Y
namespace Y
open PySem PySem.Spec PyProof.Rows L2
def spS (K : PySem.W.Frag) (cl : Cls) (n : Nat) (F : FM) : Sp := fun vs H Q E => ∃ ws rest, vs = ws ++ rest ∧ ws.length = n ∧ rest.length ≤ sizeLine ∧ ∀ p, H p = none → spF K cl F (ws ++ [V.ref p]) (upd H p (.tup rest)) Q E
structure Sk (P : Program) (w : World) (K : PySem.W.Frag) (mg : Str → Option Value) (base : Heap) (cl : Cls) (k : Nat) (f : Addr) (n : Nat) (F : FM) : Prop where
  run : FnR P w K mg base (L2.CX P w) k f (spS K cl n F)
  kp : PySem.W.keepIn K (.ref f) = true
section
variable {K : PySem.W.Frag} {cl : Cls} {X : Cx} {Wx : WX} {E0 : En} {ρ ρ' : List Addr} {G G' : Hp} {σ : Sg} {τ : L2.St} {st : List Cell} {H : Hp} {D : Ends}
theorem body_okX {P : Program} {w : World} {mg : Str → Option Value} {base : Heap} {N ps : List Str} {qual : Str} {body : List Stmt} {scope : Scope} {f : Addr} {k : Nat} {m : SMm}
    (S : FnScope N ps scope) (hb : ∀ (cd : Value) (A : Around) (outer : List Env) (s : Shared) (H : Hp) (E : XK), Room k (A.deeper (envOfC qual scope s.heap.objs.size f cd)) → SSs K cl (cxE P w K mg base N qual scope f cd A outer s H E) (WE E) m body)
    (cd : Value) (A : Around) (outer : List Env) (s : Shared) (H : Hp) (vs : List V) (Q : VK) (E : XK) (hr : Room k (A.deeper (envOfC qual scope s.heap.objs.size f cd))) (h : spF K cl (runX ps.length N.length m) vs H Q E) :
    ∃ t, PSs (cxE P w K mg base N qual scope f cd A outer s H E) body t ∧ t { nx := fun _ H' => Q .non H', rt := Q } (start N vs) H := by
  refine ⟨TSs' (cxE P w K mg base N qual scope f cd A outer s H E) body, TSs'.pss, ?_⟩
  obtain ⟨ρ0, G0, st0, ws, R, r, a⟩ := h
  unfold runX at a
  split at a
  case isFalse => exact a.elim
  rename_i hl
  have lv : vs.length = ps.length := by rw [← r.length]; exact hl
  refine (hb cd A outer s H E hr).run ⟨strip H, ρ0.length, G0⟩ ρ0 G0 (ws.map some ++ List.replicate (N.length - ps.length) none) st0 (L2.start N vs) H _ R ?_ ?_
  · unfold L2.start
    rw [lv]
    refine ⟨by rw [List.length_append, List.length_append, List.length_map, List.length_map, hl, lv, List.length_replicate, List.length_replicate], fun i w' e => ?_⟩
    rcases app_cut e with ⟨h1, h2⟩ | ⟨h1, h2⟩
    · rw [List.length_map] at h1
      rw [List.getElem?_map] at h2
      cases q : ws[i]? with
      | none => rw [q] at h2; cases h2
      | some u =>
        rw [q] at h2
        have h2 : some (some u) = some (some w') := h2
        cases h2
        obtain ⟨v, ev, rv⟩ := r.get q
        refine ⟨v, ?_, rv⟩
        rw [List.getElem?_append_left (by rw [List.length_map, lv, ← hl]; exact h1), List.getElem?_map, ev]; rfl
    · rw [List.getElem?_replicate] at h2
      split at h2 <;> cases h2
  · generalize m (ws.map some ++ List.replicate (N.length - ps.length) none) st0 = res at a ⊢
    cases res with
    | no => exact a.elim
    | exc x σ st => exact fun ρ' G' H' τ' cls d p s R' S' u => a ρ' G' H' cls d p s R' u
    | ok fl σ st =>
      cases fl with
      | nx => exact fun ρ' G' H' τ' p s R' S' => a ρ' G' H' .non p s R' RP.non
      | rt u => exact fun ρ' G' H' τ' p s R' S' v rv => a ρ' G' H' v p s R' rv
      | bk => exact a.elim
      | ct => exact a.elim
theorem Sk.of {P : Program} {w : World} {mg : Str → Option Value} {base : Heap} {N ps : List Str} {x qual pv : Str} {params : Arguments} {body : List Stmt} {scope : Scope} {f : Addr} {k : Nat} {m : SMm}
    (F : ∃ fd, FunD K x qual params body scope [] [] f fd) (S : FnScope N (ps ++ [pv]) scope)
    (bd : ∀ (kV doc pm : Value) (an : Option Addr) (cdv ct : Value) (us rest : List Value), us.length = ps.length → bindArgs (PySem.W.fnOf x qual params body scope .none kV doc pm an cdv ct) ⟨us ++ rest, []⟩ = (newTuple rest >>= fun t => pure (ps.zip us ++ [(pv, t)])))
    (hb : ∀ (cd : Value) (A : Around) (outer : List Env) (s : Shared) (H : Hp) (E : XK), GX K (cxE P w K mg base N qual scope f cd A outer s H E) → Takes (cxE P w K mg base N qual scope f cd A outer s H E) (WE E) → Room k (A.deeper (envOfC qual scope s.heap.objs.size f cd)) → SSs K cl (cxE P w K mg base N qual scope f cd A outer s H E) (WE E) m body) :
    Sk P w K mg base cl (k + 1) f ps.length (runX (ps ++ [pv]).length N.length m) := by
  obtain ⟨fd, F⟩ := F
  refine ⟨?_, F.kp⟩
  obtain ⟨oc, od, dV, kV, doc, pm, an, cdv, ct, osl, rfl, lk, hcd, hd, _⟩ := F.ex
  obtain rfl : dV = .none := hd.elim (fun h => h.2) fun h => absurd rfl h.1
  exact StX.fn_star lk hcd S StX.cxUp (bd kV doc pm an cdv ct) fun A outer s H vs Q E hr h => body_okX S (fun cd A outer s H E hr => hb cd A outer s H E (gx_ofE S hr) tk_ofE hr) cdv A outer s H vs Q E hr h
theorem Sk.mono {P : Program} {w : World} {mg : Str → Option Value} {base : Heap} {j k : Nat} {f : Addr} {n : Nat} {F : FM} (h : Sk P w K mg base cl j f n F) (q : j ≤ k) : Sk P w K mg base cl k f n F := ⟨h.run.mono q, h.kp⟩
end
end Y
namespace Y
open PySem PySem.Spec PyProof.Rows L2 GenW GT
def XcW (K : PySem.W.Frag) (cl : Cls) (E : En) (ρ : List Addr) (G : Hp) (Vx : Exn → Sg → List Cell → Prop) : WX := fun c d _ H' => ∃ y σ' st' ρ' G' τx, Vx y σ' st' ∧ ρ <+: ρ' ∧ Sub G G' ∧ (bs K cl E).Rel ρ' G' st' H' ∧ RS K cl ρ' G' σ' τx ∧ RX K cl G' H' y c d
theorem XcW.wi {K : PySem.W.Frag} {cl : Cls} {E : En} {ρ : List Addr} {G : Hp} {Vx : Exn → Sg → List Cell → Prop} : WI (XcW K cl E ρ G Vx) := fun _ _ _ _ _ h => h
end Y
namespace Y
open PySem PySem.Spec PyProof.Rows L2 GenW
def NewL (K : PySem.W.Frag) (cl : Cls) (E0 : En) (ρ : List Addr) (G H : Hp) (z : P) (xv : V) : Prop :=
  ∃ b vs l, xv = .ref b ∧ z = .lst l ∧ H b = some (.lst vs) ∧ G b = none ∧ (∀ i : Nat, ρ[i]? ≠ some b) ∧ E0.H0 b = none ∧ RPs K cl G l vs
def YPC (g : Gf) (W : Game) : Protocol := fun n s₀ v s kap =>
  ∃ x ρ G σ st τ H z xv, W.Wk s₀ x ∧ GSt g x ρ G st τ H s ∧ RS g.K g.cl ρ G σ τ ∧ RelV xv v ∧ NewL g.K g.cl x.E0 ρ G H z xv ∧ W.yf[x.i]? = some z ∧ n + 1 + x.i = W.Bud ∧
    (1 ≤ n → ∀ s2 x2 G2 H2, W.Wk s2 x2 → x2.i = x.i + 1 → GSt g x2 ρ G2 st τ H2 s2 → RS g.K g.cl ρ G2 σ τ → kap (.send .none) s2)
def AccC (g : Gf) (W : Game) (c : Code) (fs : List Frame) (k : Flow → Sem PySem.Fin) : LR → Prop
  | .ok f σ st ys => ys <+: W.yf ∧ ∀ n s₀ s x ρ G τ H fl, Bd W n ys.length → x.i = ys.length → W.Wk s₀ x → GSt g x ρ G st τ H s → FlR g ρ G σ τ f fl → Seg (model g.P g.w) g.A (RE g W) (YPC g W) n s₀ c (k fl) fs s
  | .no ys => ys <+: W.yf ∧ W.Bud ≤ ys.length
theorem AccC.pre {g : Gf} {W : Game} {c : Code} {fs : List Frame} {k : Flow → Sem PySem.Fin} {r : LR} (h : AccC g W c fs k r) : r.ys <+: W.yf := by
  cases r <;> exact h.1
def JXC (g : Gf) (W : Game) (c : Code) (fs : List Frame) (j : Value → Sem PySem.Fin) : Prop :=
  ∀ n s₀ e s x, g.Ok x → (g.X x).xe e s → Seg (model g.P g.w) g.A (RE g W) (YPC g W) n s₀ c (j e) fs s
def TLC (g : Gf) (m : LMn) (t : (Flow → Sem PySem.Fin) → (Value → Sem PySem.Fin) → (Bool → Bool) → (List Value → List Value) → Sem PySem.Fin) : Prop :=
  ∀ (W : Game) (n : Nat) (s₀ s : Shared) (c : Code) (fs : List Frame) (k : Flow → Sem PySem.Fin) (j : Value → Sem PySem.Fin) (gd : Bool → Bool) (lv : List Value → List Value) (x : Ix) (ρ : List Addr) (G : Hp) (σ : Sg) (st : List Cell) (ys : List P) (τ : L2.St) (H : Hp),
    JCL g c fs gd → Bd W n ys.length → x.i = ys.length → W.Wk s₀ x → GSt g x ρ G st τ H s → RS g.K g.cl ρ G σ τ → AccC g W c fs k (m σ st ys) → JXC g W c fs j → Seg (model g.P g.w) g.A (RE g W) (YPC g W) n s₀ c (t k j gd lv) fs s
structure YLC (g : Gf) (m : LMn) (e : Stmt) : Prop where
  mono : Mono m
  run : TLC g m fun k j gd lv => (exec e g.env).wrap k j gd lv
structure YLsC (g : Gf) (m : LMn) (e : List Stmt) : Prop where
  mono : Mono m
  run : TLC g m fun k j gd lv => (execs e g.env).wrap k j gd lv
def MadeLC (P : Program) (w : World) (K : PySem.W.Frag) (mg : Str → Option Value) (base : Heap) (cl : Cls) (k : Nat) (outer : List Env) (H : Hp) (s : Shared) (m : LMn) (np Nn : Nat) (vs : List V) (u : Value) (s' : Shared) : Prop :=
  ∃ (a : Addr) (go : Obj) (gi : Nat) (c : Code) (N : List Str) (qual : Str) (scope : Scope) (f : Addr) (cd : Value), u = .ref a ∧ s.heap.objs.size ≤ a ∧ s'.heap.get? a = some go ∧ (∀ v, go.data ≠ .cell v) ∧ (∀ h : Heap, h.get? a = some go → h.IsGen a gi) ∧
    s'.gens[gi]? = some (.fresh c) ∧ s'.os = s.os ∧ AllBare s'.gens ∧ s'.heap.NoLimit ∧ (∀ b o, s.heap.get? b = some o → s'.heap.get? b = some o) ∧
    ∀ A, Room k A → A.frames = some outer → ∀ g : Gf, g = ⟨P, w, K, mg, base, cl, N, qual, scope, f, cd, A, outer, s.heap.objs.size⟩ →
      (∀ b ∈ g.own, s.heap.objs.size ≤ b ∧ b ≠ a ∧ ∃ o, s'.heap.get? b = some o) ∧ (∃ x0 τ0, g.Ok x0 ∧ Inv (g.X x0) [] τ0 H s' ∧ (∀ ws G, ws.length = np → RPs K cl G ws vs → RS K cl [] G (sgN (ws.map W.p) np Nn) τ0) ∧
      ∀ (W : Game) (s2 : Shared) (x : Ix) (G H2 : Hp) (σ0 : Sg), W.Wk s2 x → x.i = 0 → 1 ≤ W.Bud → GSt g x [] G [] τ0 H2 s2 → RS K cl [] G σ0 τ0 → AccE W (m σ0 [] []) → Seg (model P w) A (RE g W) (YPC g W) W.Bud s2 c ((model P w).den c) [] s2)
structure GenLC (P : Program) (w : World) (K : PySem.W.Frag) (mg : Str → Option Value) (base : Heap) (cl : Cls) (k : Nat) (f : Addr) (fd : FuncData) (ps : List Str) (Nn : Nat) (m : LMn) : Prop where
  run : ∀ (A : Around) (outer : List Env) (s : Shared) (H : Hp) (args : Args) (us : List Value) (vs : List V), Room k A → Env0 P w K mg base A outer s H → BindsTo s fd args (ps.zip us) → Vals vs us → vs.length = ps.length →
    codeAny (model P w) A (.call (.ref f) args) (fun r s' => match r with | .ok (.ret u) => MadeLC P w K mg base cl k outer H s m ps.length Nn vs u s' | _ => False) s
theorem genL_ofC {P : Program} {w : World} {K : PySem.W.Frag} {mg : Str → Option Value} {base : Heap} {cl : Cls} {k : Nat} {f : Addr} {name qual : Str} {params : Arguments} {body : List Stmt} {scope : Scope} {dV kV doc pm cdv ct oc : Value} {an od : Option Addr}
    {osl : Array (Option Value)} {N ps : List Str} {m : LMn} (lk : K.lookup f = some ⟨oc, od, .func (PySem.W.fnOf name qual params body scope dV kV doc pm an cdv ct), osl⟩) (hcd : PySem.W.codeIn K cdv qual = true) (S : GScope N ps scope)
    (hbody : ∀ (A : Around) (outer : List Env) (n0 : Nat), Room k (A.deeper (envOfC qual scope n0 f cdv)) → YLsC ⟨P, w, K, mg, base, cl, N, qual, scope, f, cdv, A, outer, n0⟩ m body) :
    GenLC P w K mg base cl (k + 1) f (PySem.W.fnOf name qual params body scope dV kV doc pm an cdv ct) ps N.length m := by
  refine ⟨fun A outer s H args us vs hr e0 hb r hl => ?_⟩
  have KX : K.In s.heap := e0.mod.kin.keeps fun b o e => (e0.bs b o e).1
  have lim : s.heap.NoLimit := e0.mod.nolimit.keeps fun b o e => (e0.bs b o e).1
  have kinds : ∀ y ∈ ps.zip us, scope.names.lookup y.1 = some .local ∨ (scope.names.lookup y.1 = some .cell ∧ ((cellsFrom (s.heap.objs.size + 1) scope.names []).lookup y.1).isSome = true) := fun ⟨n, v⟩ hy =>
    (S.par n (List.of_mem_zip hy).1).elim .inl fun q => .inr ⟨q, PySem.W.cellsFrom_some _ _ _ (.inl q)⟩
  refine codeAny_call_generator hr.depth (KX _ _ lk) rfl S.co S.gen rfl (PySem.W.codeRec_of KX hcd) (hb _ _ _ _ ?_)
  refine wpAny_newFunctionEnv_cells S.kind kinds fun env he s1 x => ?_
  subst he
  have lim1 : s1.heap.NoLimit := lim.keeps x.toInCall.keep
  refine ⟨lim1, ?_⟩
  obtain ⟨h1, tk, es1, _⟩ := x.done
  have os1 : s1.os = s.os := by rw [es1]
  have gen1 : s1.gens = s.gens := by rw [es1]
  have lt1 : s.heap.objs.size < s1.heap.objs.size := x.toInCall.ns.lt
  have kp1 : ∀ b o, s.heap.get? b = some o → s1.heap.get? b = some o := x.toInCall.keep
  generalize hL : s1.heap.objs.size = L at lt1
  have main : ∀ (go : Obj) (nm qn : Value) (tk2 : Nat), go.cls = .type "generator" → go.data = .fields #[.int s1.gens.size 0, nm, qn] → go.slots = #[] → (∀ h : Heap, (h.push go).get? h.objs.size = some go) →
      MadeLC P w K mg base cl (k + 1) outer H s m ps.length N.length vs (.ref L) { s1 with gens := s1.gens.push (.fresh (.func body (envOfC qual scope s.heap.objs.size f cdv))), toks := tk2, heap := s1.heap.push go } := by
    intro go nm qn tk2 hgc hgd0 hgs hgp
    have isg : ∀ h : Heap, h.get? L = some go → h.IsGen L s1.gens.size := fun h e => ⟨go, nm, qn, e, hgc, hgd0, hgs⟩
    have pushed : (s1.heap.push go).get? L = some go := by rw [← hL]; exact hgp _
    have ab : AllBare (s1.gens.push (.fresh (.func body (envOfC qual scope s.heap.objs.size f cdv)))) := AllBare.push (by rw [gen1]; exact e0.bare) rfl
    refine ⟨L, go, s1.gens.size, _, N, qual, scope, f, cdv, rfl, by omega, pushed, (fun v q => by rw [hgd0] at q; cases q), isg, Array.getElem?_push_size .., os1, ab, lim1.keeps fun b o e => Heap.get?_push_of_some _ e, fun b o e => Heap.get?_push_of_some _ (kp1 b o e), ?_⟩
    intro Aw hrw hfr g hg
    have e0w : Env0 P w K mg base Aw outer s H := ⟨hfr, e0.mod, e0.bs, e0.bsz, e0.funs, e0.frf, e0.hok, e0.bare⟩
    have I1 : Inv (gcxOf P w K mg base N qual scope f cdv Aw outer s H (fun _ _ _ => False) []) [] (L2.start N vs) H s1 := inv_startG S hrw.hd e0w hl r x
    have I2 : Inv (gcxOf P w K mg base N qual scope f cdv Aw outer s H (fun _ _ _ => False) []) [] (L2.start N vs) H { s1 with gens := s1.gens.push (.fresh (.func body (envOfC qual scope s.heap.objs.size f cdv))), toks := tk2, heap := s1.heap.push go } :=
      I1.call' (ch := []) rfl (Un.kept fun b o e => Heap.get?_push_of_some _ e) (I1.hok.kept fun b o e => Heap.get?_push_of_some _ e) ab fun b z => by simp at z
    have hln : ps.length ≤ N.length := by have := congrArg List.length S.pre; rw [List.length_take] at this; omega
    refine ⟨fun b hb => ?_, ⟨s, H, [], ⟨H, 0, H⟩, [], 0⟩, L2.start N vs, by rw [hg]; rfl, by rw [hg]; exact I2, fun ws G hw hr2 => rs_start hw hln hr2, ?_⟩
    · have lt_L : ∀ o, s1.heap.get? b = some o → b < L := fun o e => by rw [← hL]; exact Heap.lt_size e
      rcases Gf.own_of hb with e | ⟨y, e⟩
      · rw [hg] at e
        have e : b = s.heap.objs.size := e
        obtain ⟨o, _, _, ho, _⟩ := x.toInCall.ns
        rw [e]
        exact ⟨Nat.le_refl _, Nat.ne_of_lt lt1, o, Heap.get?_push_of_some _ ho⟩
      · rw [hg] at e
        have e' : (gcxOf P w K mg base N qual scope f cdv Aw outer s H (fun _ _ _ => False) []).env.cells.lookup y = some b := e
        obtain ⟨v, ob, ho, _⟩ := I1.cell y b e'
        exact ⟨I1.ok.cab y b rfl e', Nat.ne_of_lt (lt_L ob ho), ob, Heap.get?_push_of_some _ ho⟩
    intro W s2 xx G H2 σ0 hw hi hbud hgs S0 acc
    have ht := hbody Aw outer s.heap.objs.size (hrw.deeper _)
    rw [← hg] at ht
    have ev : g.env = envOfC qual scope s.heap.objs.size f cdv := by rw [hg]
    have gP : g.P = P := by rw [hg]
    have gw : g.w = w := by rw [hg]
    have gA : g.A = Aw := by rw [hg]
    have key := ht.run W W.Bud s2 s2 (.func body (envOfC qual scope s.heap.objs.size f cdv)) [] (fun f => .pure (.done (.ret (match f with | .ret v => v | _ => .none)))) (fun e => (leaving (envOfC qual scope s.heap.objs.size f cdv) e).wrap (fun _ => .raise e) .raise id id) id id
      xx [] G σ0 [] [] _ H2 ⟨by rw [gA, ev]; exact over_func, rfl, rfl, rfl⟩ ⟨Nat.add_zero _, hbud⟩ hi hw hgs (by rw [hg]; exact S0) ?_ ?_
    · refine seg_func ?_
      rw [gP, gw, gA, ev] at key
      exact key
    · generalize m σ0 [] [] = r at acc
      cases r with
      | no ys => exact ⟨by rw [acc.1]; exact List.prefix_refl _, acc.2⟩
      | ok fl σ st ys =>
        cases fl with
        | nx =>
          refine ⟨by rw [acc.1]; exact List.prefix_refl _, fun n s₀ s3 x' ρ' G' τ' H' fl hn hi' hw' hg' hf => ?_⟩
          obtain ⟨rfl, _⟩ := hf
          exact seg_end (.ok (.ret .none)) (.inl ⟨.inl rfl, x', ρ', G', st, τ', H', hw', hg', by rw [hi', acc.1], acc.2, by rw [hi']; exact hn.1⟩)
        | rt u =>
          cases u with
          | r i => exact acc.elim
          | p y =>
            cases y with
            | non =>
              refine ⟨by rw [acc.1]; exact List.prefix_refl _, fun n s₀ s3 x' ρ' G' τ' H' fl hn hi' hw' hg' hf => ?_⟩
              obtain ⟨v, u, hv, hr, rfl⟩ := hf
              cases hv
              have eu : u = Value.none := hr
              subst eu
              exact seg_end (.ok (.ret .none)) (.inl ⟨.inl rfl, x', ρ', G', st, τ', H', hw', hg', by rw [hi', acc.1], acc.2, by rw [hi']; exact hn.1⟩)
            | _ => exact acc.elim
        | bk => exact acc.elim
        | ct => exact acc.elim
    · intro n s₀ e s3 x' hok hx
      refine seg_wrap ?_
      have hx : wpAny (model g.P g.w) (g.A.deeper (envOfC g.qual g.scope x'.s0.heap.objs.size g.f g.cd)) (leaving (envOfC g.qual g.scope x'.s0.heap.objs.size g.f g.cd) e) (fun _ s'' => CX g.P g.w g.outer x'.H0 x'.s0 (fun _ _ _ => False) e s'' ∧ ∀ p ∈ x'.pn, s''.heap.get? p.1 = some p.2) (fun _ _ => False) s3 := hx
      have hok : x'.s0.heap.objs.size = g.n0 := hok
      rw [hok] at hx
      have ev2 : envOfC g.qual g.scope g.n0 g.f g.cd = envOfC qual scope s.heap.objs.size f cdv := ev
      rw [ev2] at hx
      rw [over_func]
      refine wpAny_mono hx ?_ ?_
      · intro _ s4 q
        obtain ⟨⟨_, _, _, _, _, _, _, _, _, _, _, _, q⟩, _⟩ := q
        exact q.elim
      · exact fun _ s4 q => q.elim
  exact hL ▸ main _ _ _ _ rfl rfl rfl fun h => Heap.get?_push_size _ rfl
structure LkC (P : Program) (w : World) (K : PySem.W.Frag) (mg : Str → Option Value) (base : Heap) (cl : Cls) (k : Nat) (f : Addr) (ps : List Str) (Nn : Nat) (m : LMn) : Prop where
  ex : ∃ fd, GenLC P w K mg base cl k f fd ps Nn m ∧ Binds K fd ps []
  kp : PySem.W.keepIn K (.ref f) = true
section
variable {K : PySem.W.Frag} {cl : Cls}
theorem LkC.of {P : Program} {w : World} {mg : Str → Option Value} {base : Heap} {N ps : List Str} {x qual : Str} {params : Arguments} {body : List Stmt} {scope : Scope} {f : Addr} {k : Nat} {m : LMn}
    (F : ∃ fd, FunD K x qual params body scope [] [] f fd) (S : GScope N ps scope) (bd : ∀ (kV doc pm : Value) (an : Option Addr) (cdv ct : Value) (us : List Value), us.length = ps.length → bindArgs (PySem.W.fnOf x qual params body scope .none kV doc pm an cdv ct) ⟨us, []⟩ = pure (ps.zip us))
    (hb : ∀ (cd : Value) (A : Around) (outer : List Env) (n0 : Nat), FXL k ⟨P, w, K, mg, base, cl, N, qual, scope, f, cd, A, outer, n0⟩ → YLsC ⟨P, w, K, mg, base, cl, N, qual, scope, f, cd, A, outer, n0⟩ m body) :
    LkC P w K mg base cl (k + 1) f ps N.length m := by
  obtain ⟨fd, F⟩ := F
  refine ⟨⟨fd, ?_, F.bindsN bd⟩, F.kp⟩
  obtain ⟨oc, od, dV, kV, doc, pm, an, cdv, ct, osl, rfl, lk, hcd, _, _⟩ := F.ex
  refine genL_ofC lk hcd S fun A outer n0 hr => hb cdv A outer n0 ⟨fun y hy => ?_, fun y hy => takes_gcx, fun y hy => owns_gcx, fun y hy => ?_⟩
  · have eA := Gf.AX hy
    refine ⟨rfl, rfl, S.nd, ?_, ?_⟩
    · rw [eA]
      have := hr.un
      show (A.deeper (envOfC qual scope n0 f cdv)).units + 65 < cLine
      omega
    · rw [eA]; exact hr.hd
  · rw [Gf.AX hy]
    exact hr
end
end Y
namespace Y
open PySem PySem.Spec PyProof.Rows L2 GenW GT
structure AslC (L : Lp) (i : Nat) (ρg : List Addr) (σg : Sg) (stg : List Cell) (τg : L2.St) (gs : GenState) (G H : Hp) (s : Shared) : Prop where
  cells : ∃ E', Rel L.K L.cl E' ρg G stg H
  rs : RS L.K L.cl ρg G σg τg
  inv : ∃ xp sp Hp, L.g.Ok xp ∧ Inv (L.g.X xp) [] τg Hp sp ∧ Kept L.g sp s H ∧ ∀ b ∈ L.g.own, ∃ o, sp.heap.get? b = some o
  gen : s.gens[L.gi]? = some gs
  bare : gs.bare = true
  go : i < L.game.Bud → ∀ s2 x2 G2 H2, L.game.Wk s2 x2 → x2.i = i → GSt L.g x2 ρg G2 stg τg H2 s2 → RS L.K L.cl ρg G2 σg τg → gs.Goes (model L.g.P L.g.w) L.g.A (RE L.g L.game) (YPC L.g L.game) (L.game.Bud - i) (.send .none) s2
end Y
namespace Y
open PySem PySem.Spec PyProof.Rows L2
def cutG (G : Hp) (a : Addr) : Hp := fun b => if b = a then none else G b
theorem cutG_ne {G : Hp} {a b : Addr} (h : b ≠ a) : cutG G a b = G b := if_neg h
section
variable {K : PySem.W.Frag} {cl : Cls} {G : Hp} {a : Addr} {od : Obj} {u : HO}
theorem cut_keep (hG : G a = some (.frz od (.frz od u))) {b : Addr} {o : HO} (h : G b = some o) (n : o ≠ .frz od (.frz od u)) : cutG G a b = some o := by
  rw [cutG_ne fun z => by subst z; rw [hG] at h; exact n (Option.some.inj h).symm]
  exact h
theorem cut_rd (hG : G a = some (.frz od (.frz od u))) {b : Addr} {o : HO} (h : Rd G b o) (n : ∀ o' u', o ≠ .frz o' u') : Rd (cutG G a) b o := by
  rcases h with h | ⟨o', h⟩
  · exact .inl (cut_keep hG h (n _ _))
  · exact .inr ⟨o', cut_keep hG h (fun z => by injection z with _ z; exact n _ _ z)⟩
theorem cut_sqL (hG : G a = some (.frz od (.frz od u))) {b : Addr} {xs : List V} (h : SqL K G b xs) : SqL K (cutG G a) b xs := by
  rcases h with h | h
  · exact .inl (cut_rd hG h fun _ _ z => nomatch z)
  · exact .inr h
theorem cut_sqT (hG : G a = some (.frz od (.frz od u))) {b : Addr} {xs : List V} (h : SqT K G b xs) : SqT K (cutG G a) b xs := by
  rcases h with h | h
  · exact .inl (cut_rd hG h fun _ _ z => nomatch z)
  · exact .inr h
mutual
theorem RP.cutD (hG : G a = some (.frz od (.frz od u))) : ∀ {x : P} {v : V}, RP K cl G x v → RP K cl (cutG G a) x v
  | _, _, .non => .non
  | _, _, .bl b => .bl b
  | _, _, .int i => .int i
  | _, _, .str z => .str z
  | _, _, .tup h r => .tup (cut_sqT hG h) (RPs.cutD hG r)
  | _, _, .lst h r => .lst (cut_keep hG h fun z => nomatch z) (RPs.cutD hG r)
  | _, _, .scr h => .scr (cut_sqL hG h)
  | _, _, .dk h e r => .dk (cut_keep hG h fun z => nomatch z) e (RPs.cutD hG r)
  | _, _, .obj c h e r => .obj c (cut_keep hG h fun z => nomatch z) e (RPs.cutD hG r)
  | _, _, .exn c x h d e r => .exn c x (cut_keep hG h fun z => nomatch z) (cut_keep hG d fun z => nomatch z) e (RPs.cutD hG r)
  | _, _, .lam a b c d e => .lam a b (cut_keep hG c fun z => nomatch z) (cut_keep hG d fun z => nomatch z) (e.elim .inl fun ⟨h, T, h1, h2⟩ => .inr ⟨h, T, h1, cut_keep hG h2 fun z => nomatch z⟩)
  | _, _, .cls h => .cls h
  | _, _, .fd h e r => .fd (cut_keep hG h fun z => nomatch z) e (RPs.cutD hG r)
  | _, _, .fn n h d e u r q => .fn n (cut_keep hG h fun z => nomatch z) d e u (RPs.cutD hG r) (RPs.cutD hG q)
theorem RPs.cutD (hG : G a = some (.frz od (.frz od u))) : ∀ {l : List P} {vs : List V}, RPs K cl G l vs → RPs K cl (cutG G a) l vs
  | _, _, .nil => .nil
  | _, _, .cons h r => .cons (RP.cutD hG h) (RPs.cutD hG r)
end
variable {ρ : List Addr}
theorem RW.cutD (hG : G a = some (.frz od (.frz od u))) {w : W} {v : V} (h : RW K cl ρ G w v) : RW K cl ρ (cutG G a) w v := by
  cases w with
  | p x => exact RP.cutD hG h
  | r i => exact h
theorem RWs.cutD (hG : G a = some (.frz od (.frz od u))) : ∀ {l : List W} {vs : List V}, RWs K cl ρ G l vs → RWs K cl ρ (cutG G a) l vs
  | _, _, .nil => .nil
  | _, _, .cons h r => .cons (h.cutD hG) (RWs.cutD hG r)
theorem RS.cutD (hG : G a = some (.frz od (.frz od u))) {σ : Sg} {τ : L2.St} (S : RS K cl ρ G σ τ) : RS K cl ρ (cutG G a) σ τ :=
  ⟨S.1, fun i w e => by obtain ⟨v, e1, r⟩ := S.2 i w e; exact ⟨v, e1, r.cutD hG⟩⟩
end
end Y
namespace Y
open PySem PySem.Spec PyProof.Rows L2
structure Up (c d : Cls) : Prop where
  l : d.l = c.l
  lm : d.lm = c.lm
  wd : d.wd = c.wd
  tb : d.tb = c.tb
  fr : ∀ (j : Nat) x, c.fr[j]? = some x → d.fr[j]? = some x
theorem Up.at {c d : Cls} (u : Up c d) (i : Nat) : d[i]? = c[i]? := by
  show d.l[i]? = c.l[i]?
  rw [u.l]
section
variable {K : PySem.W.Frag} {c d : Cls} {G : Hp}
mutual
theorem RP.up (u : Up c d) : ∀ {x : P} {v : V}, RP K c G x v → RP K d G x v
  | _, _, .non => .non
  | _, _, .bl b => .bl b
  | _, _, .int i => .int i
  | _, _, .str z => .str z
  | _, _, .tup h r => .tup h (RPs.up u r)
  | _, _, .lst h r => .lst h (RPs.up u r)
  | _, _, .scr h => .scr h
  | _, _, .dk h e r => .dk h e (RPs.up u r)
  | _, _, .obj k h e r => .obj ((u.at _).trans k) h e (RPs.up u r)
  | _, _, .exn k x h q e r => .exn ((u.at _).trans k) x h q e (RPs.up u r)
  | _, _, .lam a b k q e => .lam (by rw [u.lm]; exact a) (u.fr _ _ b) k q e
  | _, _, .cls h => .cls ((u.at _).trans h)
  | _, _, .fd h e r => .fd h e (RPs.up u r)
  | _, _, .fn n h q e z r t => .fn n h (by rw [u.wd]; exact q) e z (RPs.up u r) (RPs.up u t)
theorem RPs.up (u : Up c d) : ∀ {l : List P} {vs : List V}, RPs K c G l vs → RPs K d G l vs
  | _, _, .nil => .nil
  | _, _, .cons h r => .cons (RP.up u h) (RPs.up u r)
end
mutual
def nlP : P → Bool
  | .tup l => nlPs l
  | .lst l => nlPs l
  | .dk _ l => nlPs l
  | .obj _ l => nlPs l
  | .exn _ l => nlPs l
  | .fd _ l => nlPs l
  | .fn ks l => nlPs ks && nlPs l
  | .lam _ _ => false
  | _ => true
def nlPs : List P → Bool
  | [] => true
  | x :: l => nlP x && nlPs l
end
theorem nls_cons {x : P} {l : List P} (h : nlPs (x :: l) = true) : nlP x = true ∧ nlPs l = true := by
  rw [nlPs] at h
  exact Bool.and_eq_true_iff.mp h
theorem nl_fn {ks l : List P} (h : nlP (.fn ks l) = true) : nlPs ks = true ∧ nlPs l = true := by
  rw [nlP] at h
  exact Bool.and_eq_true_iff.mp h
mutual
theorem RP.down (u : Up c d) : ∀ {x : P} {v : V}, nlP x = true → RP K d G x v → RP K c G x v
  | _, _, _, .non => .non
  | _, _, _, .bl b => .bl b
  | _, _, _, .int i => .int i
  | _, _, _, .str z => .str z
  | _, _, n, .tup h r => .tup h (RPs.down u (by rw [nlP] at n; exact n) r)
  | _, _, n, .lst h r => .lst h (RPs.down u (by rw [nlP] at n; exact n) r)
  | _, _, _, .scr h => .scr h
  | _, _, n, .dk h e r => .dk h e (RPs.down u (by rw [nlP] at n; exact n) r)
  | _, _, n, .obj k h e r => .obj ((u.at _).symm.trans k) h e (RPs.down u (by rw [nlP] at n; exact n) r)
  | _, _, n, .exn k x h q e r => .exn ((u.at _).symm.trans k) x h q e (RPs.down u (by rw [nlP] at n; exact n) r)
  | _, _, n, .lam a b k q e => by rw [nlP] at n; cases n
  | _, _, _, .cls h => .cls ((u.at _).symm.trans h)
  | _, _, n, .fd h e r => .fd h e (RPs.down u (by rw [nlP] at n; exact n) r)
  | _, _, n, .fn m h q e z r t => .fn m h (by rw [u.wd] at q; exact q) e z (RPs.down u (nl_fn n).1 r) (RPs.down u (nl_fn n).2 t)
theorem RPs.down (u : Up c d) : ∀ {l : List P} {vs : List V}, nlPs l = true → RPs K d G l vs → RPs K c G l vs
  | _, _, _, .nil => .nil
  | _, _, n, .cons h r => .cons (RP.down u (nls_cons n).1 h) (RPs.down u (nls_cons n).2 r)
end
def nlW : W → Bool
  | .p x => nlP x
  | .r _ => true
variable {ρ : List Addr}
theorem RW.up (u : Up c d) : ∀ {w : W} {v : V}, RW K c ρ G w v → RW K d ρ G w v
  | .p _, _, h => RP.up u h
  | .r _, _, h => h
theorem RW.down (u : Up c d) : ∀ {w : W} {v : V}, nlW w = true → RW K d ρ G w v → RW K c ρ G w v
  | .p _, _, n, h => RP.down u n h
  | .r _, _, _, h => h
theorem RWs.up (u : Up c d) : ∀ {l : List W} {vs : List V}, RWs K c ρ G l vs → RWs K d ρ G l vs
  | _, _, .nil => .nil
  | _, _, .cons h r => .cons (RW.up u h) (RWs.up u r)
theorem RWs.down (u : Up c d) : ∀ {l : List W} {vs : List V}, l.all nlW = true → RWs K d ρ G l vs → RWs K c ρ G l vs
  | _, _, _, .nil => .nil
  | _, _, n, .cons h r => by
    rw [List.all_cons, Bool.and_eq_true] at n
    exact .cons (RW.down u n.1 h) (RWs.down u n.2 r)
def nlC : Cell → Bool
  | .lst l => l.all nlW
  | .dk _ l => l.all nlW
  | .ins _ l => l.all nlW
  | .dead => true
  | .dn ks l => nlPs ks && l.all nlW
theorem CA.up (u : Up c d) {H : Hp} {a : Addr} : ∀ {x : Cell}, CA K c ρ G H a x → CA K d ρ G H a x
  | .lst _, ⟨vs, h, r⟩ => ⟨vs, h, r.up u⟩
  | .dk _ _, ⟨vs, h, z, r⟩ => ⟨vs, h, z, r.up u⟩
  | .ins _ _, ⟨C, dx, ns, vs, k, h, z, r⟩ => ⟨C, dx, ns, vs, (u.at _).trans k, h, z, r.up u⟩
  | .dead, h => h
  | .dn _ _, ⟨nks, as, vs, n, h, z, q, r⟩ => ⟨nks, as, vs, n, by rw [u.wd]; exact h, z, RPs.up u q, r.up u⟩
theorem CA.down (u : Up c d) {H : Hp} {a : Addr} : ∀ {x : Cell}, nlC x = true → CA K d ρ G H a x → CA K c ρ G H a x
  | .lst _, n, ⟨vs, h, r⟩ => ⟨vs, h, r.down u n⟩
  | .dk _ _, n, ⟨vs, h, z, r⟩ => ⟨vs, h, z, r.down u n⟩
  | .ins _ _, n, ⟨C, dx, ns, vs, k, h, z, r⟩ => ⟨C, dx, ns, vs, (u.at _).symm.trans k, h, z, r.down u n⟩
  | .dead, _, h => h
  | .dn _ _, n, ⟨nks, as, vs, m, h, z, q, r⟩ => by
    obtain ⟨n1, n2⟩ := Bool.and_eq_true_iff.mp (show (nlPs _ && _) = true from n)
    exact ⟨nks, as, vs, m, by rw [u.wd] at h; exact h, z, RPs.down u n1 q, r.down u n2⟩
variable {E0 : En} {st : List Cell} {H : Hp}
theorem Rel.up (u : Up c d) (R : Rel K c E0 ρ G st H) : Rel K d E0 ρ G st H :=
  ⟨R.len, R.nd, fun i x a h1 h2 => (R.cell i x a h1 h2).up u, R.sep, R.sub, R.old, R.new, R.n0, R.grow, R.ent, R.gnt, fun p hp => R.tabs p (by rw [u.tb] at hp; exact hp)⟩
theorem Rel.down (u : Up c d) (n : st.all nlC = true) (R : Rel K d E0 ρ G st H) : Rel K c E0 ρ G st H :=
  ⟨R.len, R.nd, fun i x a h1 h2 => (R.cell i x a h1 h2).down u (List.all_eq_true.mp n x (List.mem_of_getElem? h1)), R.sep, R.sub, R.old, R.new, R.n0, R.grow, R.ent, R.gnt, fun p hp => R.tabs p (by rw [u.tb]; exact hp)⟩
end
end Y
namespace YZ
end YZ
namespace YS
end YS
namespace K53
open PySem PySem.Spec PyProof.Rows L2 Y YZ YS
def top (i : Nat) : Stmt := PySem.Challenge.pw_sharesay_k53_rules_refused.main.body.getD i (.Pass ⟨0, 0, 0, 0⟩)
def clsB : Stmt → List Stmt
  | .ClassDef (body := b) .. => b
  | _ => []
abbrev s_law_bag : Stmt := (top 16)
abbrev s_law_pull : Stmt := (top 17)
abbrev s_law_rules : Stmt := (top 23)
abbrev s_law_starts : Stmt := (top 22)
abbrev s_is_number : Stmt := (top 7)
abbrev s_is_within : Stmt := (top 8)
abbrev s_is_rule : Stmt := (top 13)
abbrev s_Rules_init : Stmt := ((clsB (top 14)).getD 1 (.Pass ⟨0, 0, 0, 0⟩))
abbrev s_law_program : Stmt := (top 24)
abbrev s_Rules_rules : Stmt := ((clsB (top 14)).getD 3 (.Pass ⟨0, 0, 0, 0⟩))
abbrev s_law_same : Stmt := (top 19)
abbrev s_Rules_starts : Stmt := ((clsB (top 14)).getD 2 (.Pass ⟨0, 0, 0, 0⟩))
abbrev s_Rules_repr : Stmt := ((clsB (top 14)).getD 11 (.Pass ⟨0, 0, 0, 0⟩))
abbrev s_Rules_eq : Stmt := ((clsB (top 14)).getD 10 (.Pass ⟨0, 0, 0, 0⟩))
abbrev s_law_of : Stmt := (top 18)
abbrev s_law_sixty_one : Stmt := (top 27)
abbrev s_law_sixty : Stmt := (top 26)
abbrev s_law_full_rules : Stmt := (top 25)
abbrev s_law : Stmt := (top 28)
abbrev s_law_try : Stmt := (top 21)
abbrev s_law_field : Stmt := (top 20)
abbrev s_InvalidRules_init : Stmt := ((clsB (top 4)).getD 0 (.Pass ⟨0, 0, 0, 0⟩))
abbrev dE_InvalidRules : DefE := ⟨fun K => He.ma K (He.ga K "InvalidRules") "__init__", "__init__", "InvalidRules.__init__", defArgs s_InvalidRules_init, defBody s_InvalidRules_init, defScope s_InvalidRules_init, ["__class__"]⟩
abbrev dE_Rules_starts : DefE := ⟨fun K => (propGet K (He.ga K "Rules") "starts").2, "starts", "Rules.starts", defArgs s_Rules_starts, defBody s_Rules_starts, defScope s_Rules_starts, []⟩
def lamQ : Str := (envOfC "law" (defScope s_law) 0 0 .none).qual ++ ("<lambda>" : Str)
def lamQh : Str := (envOfC "_law_full_rules" (defScope s_law_full_rules) 0 0 .none).qual ++ ("<lambda>" : Str)
def lamsL : List LamR := [lamAt s_law [1, 8] [1], lamAt s_law [1, 8] [0], lamAt s_law [1, 9] [1, 0], lamAt s_law_full_rules [1] [0, 1], lamAt s_law_full_rules [2] [0, 1]]
def cl (K : PySem.W.Frag) (fr : List (Str × List (Str × Addr))) : Cls := { l := [(0, ([] : List Str)), (0, ([] : List Str)), (0, ([] : List Str)), (0, ([] : List Str)), (0, ([] : List Str)), (0, ([] : List Str)), (0, ([] : List Str)), (0, ([] : List Str)), (0, ([] : List Str)), (0, ([] : List Str)), (0, ([] : List Str)), (0, ([] : List Str)), (0, ([] : List Str)), (He.ga K "Rules", (["first", "rows", "same"] : List Str)), (0, ([] : List Str)), (0, ([] : List Str)), (0, ([] : List Str)), (0, ([] : List Str)), (0, ([] : List Str)), (0, ([] : List Str)), (0, ([] : List Str)), (0, ([] : List Str)), (0, ([] : List Str)), (0, ([] : List Str)), (0, ([] : List Str)), (0, ([] : List Str)), (0, ([] : List Str)), (0, ([] : List Str)), (0, ([] : List Str)), (0, ([] : List Str)), (0, ([] : List Str)), (0, ([] : List Str)), (0, ([] : List Str)), (0, ([] : List Str)), (He.ga K "InvalidRules", (["index", "tag"] : List Str))], tb := [((He.cT K ("law", none)).2, lamQ), ((He.cT K ("_law_full_rules", none)).2, lamQh)], lm := lamsL, fr := fr }
theorem clsm {K : PySem.W.Frag} {fr : List (Str × List (Str × Addr))} : ∀ (c : Nat) (C : Addr) (ns : List Str), (cl K fr)[c]? = some (C, ns) → ns.length < 1000 := by
  intro c C ns h
  have hm := List.mem_of_getElem? h
  simp only [cl, List.mem_cons, List.not_mem_nil, or_false] at hm
  rcases hm with hm | hm | hm | hm | hm | hm | hm | hm | hm | hm | hm | hm | hm | hm | hm | hm | hm | hm | hm | hm | hm | hm | hm | hm | hm | hm | hm | hm | hm | hm | hm | hm | hm | hm | hm <;> (cases hm; decide)
theorem fld1 {K : PySem.W.Frag} {cl : Cls} {fn : Str} {c i : Nat} (h : FldAt K cl fn c i) : ∀ q ∈ [(c, i)], FldAt K cl fn q.1 q.2 := fun q m => by
  have e : q = (c, i) := by simpa using m
  rw [e]; exact h
def fa0 : List He.Fa := ([.glo "_law_bag", .glo "_law_pull", .glo "_law_rules", .glo "_law_starts", .glo "is_number", .glo "is_within", .glo "is_rule", .glo "_law_program", .glo "_law_same", .glo "_law_of", .glo "_law_sixty_one", .glo "_law_sixty"] : List He.Fa) ++ ([.glo "_law_full_rules", .glo "law", .glo "_law_try", .glo "_law_field", .glo "Rules", .glo "InvalidRules", .glo "Missing", .glo "NothingLeft", .glo "SayError", .free "all", .free "bool", .free "enumerate"] : List He.Fa) ++ ([.free "int", .free "isinstance", .free "len", .free "list", .free "range", .free "repr", .free "str", .free "super", .free "tuple", .free "zip", .int "MOST_HEARD" 200, .int "MOST_RULES" 60] : List He.Fa) ++ ([.int "MOST_STATES" 8, .exm "InvalidRules" "SayError" true, .cls "Rules", .mkr "Rules", .meth "Rules" "__eq__", .meth "Rules" "__repr__", .meth "Rules" "rules", .noat "Rules" "first", .noat "Rules" "rows", .noat "Rules" "same"] : List He.Fa)
def fa : List He.Fa := fa0
def fn0 : List He.DefD := ([⟨("_law_bag", none), "_law_bag", "_law_bag", defArgs s_law_bag, defBody s_law_bag, defScope s_law_bag, [], []⟩, ⟨("_law_pull", none), "_law_pull", "_law_pull", defArgs s_law_pull, defBody s_law_pull, defScope s_law_pull, [], []⟩, ⟨("_law_rules", none), "_law_rules", "_law_rules", defArgs s_law_rules, defBody s_law_rules, defScope s_law_rules, [], []⟩, ⟨("_law_starts", none), "_law_starts", "_law_starts", defArgs s_law_starts, defBody s_law_starts, defScope s_law_starts, [], []⟩, ⟨("is_number", none), "is_number", "is_number", defArgs s_is_number, defBody s_is_number, defScope s_is_number, [], []⟩, ⟨("is_within", none), "is_within", "is_within", defArgs s_is_within, defBody s_is_within, defScope s_is_within, [], []⟩, ⟨("is_rule", none), "is_rule", "is_rule", defArgs s_is_rule, defBody s_is_rule, defScope s_is_rule, [], []⟩, ⟨("Rules", some "__init__"), "__init__", "Rules.__init__", defArgs s_Rules_init, defBody s_Rules_init, defScope s_Rules_init, [], []⟩, ⟨("_law_program", none), "_law_program", "_law_program", defArgs s_law_program, defBody s_law_program, defScope s_law_program, [], []⟩, ⟨("Rules", some "rules"), "rules", "Rules.rules", defArgs s_Rules_rules, defBody s_Rules_rules, defScope s_Rules_rules, [], []⟩, ⟨("_law_same", none), "_law_same", "_law_same", defArgs s_law_same, defBody s_law_same, defScope s_law_same, [], []⟩, ⟨("Rules", some "__repr__"), "__repr__", "Rules.__repr__", defArgs s_Rules_repr, defBody s_Rules_repr, defScope s_Rules_repr, [], []⟩] : List He.DefD) ++ ([⟨("Rules", some "__eq__"), "__eq__", "Rules.__eq__", defArgs s_Rules_eq, defBody s_Rules_eq, defScope s_Rules_eq, [], []⟩, ⟨("_law_of", none), "_law_of", "_law_of", defArgs s_law_of, defBody s_law_of, defScope s_law_of, [], []⟩, ⟨("_law_sixty_one", none), "_law_sixty_one", "_law_sixty_one", defArgs s_law_sixty_one, defBody s_law_sixty_one, defScope s_law_sixty_one, [], []⟩, ⟨("_law_sixty", none), "_law_sixty", "_law_sixty", defArgs s_law_sixty, defBody s_law_sixty, defScope s_law_sixty, [], []⟩, ⟨("_law_full_rules", none), "_law_full_rules", "_law_full_rules", defArgs s_law_full_rules, defBody s_law_full_rules, defScope s_law_full_rules, [], []⟩, ⟨("law", none), "law", "law", defArgs s_law, defBody s_law, defScope s_law, [], []⟩, ⟨("_law_try", none), "_law_try", "_law_try", defArgs s_law_try, defBody s_law_try, defScope s_law_try, [], []⟩, ⟨("_law_field", none), "_law_field", "_law_field", defArgs s_law_field, defBody s_law_field, defScope s_law_field, [], []⟩] : List He.DefD)
def fn : List He.DefD := fn0
def ts : List He.Tab := []
def es : List DefE := [dE_InvalidRules, dE_Rules_starts]
def tf : List He.Defn := [("law", none), ("_law_full_rules", none)]
def exl (K : PySem.W.Frag) : List Bool := [excB K "InvalidRules" "/claim/cut.py" (some "index"), propB K (He.ga K "Rules") "starts", isoB K (He.ga K "Rules"), insB K (He.ga K "Rules"), neB K (He.ga K "Rules"), cintB K (He.ga K "Rules") "STATES" 8, decide ((He.cT K ("law", none)).2 ≠ (He.cT K ("_law_full_rules", none)).2)]
def ex (K : PySem.W.Frag) : Bool := (exl K).all id
def loose : List Str := (["_wall", "__name__", "SayError", "Missing", "InvalidRules", "NothingLeft", "is_number", "is_within", "MOST_STATES", "MOST_RULES", "MOST_HEARD", "is_rule"] : List Str) ++ (["Rules", "_law_bag", "_law_pull", "_law_of", "_law_same", "_law_field", "_law_try", "_law_starts", "_law_rules", "_law_program", "_law_full_rules", "_law_sixty"] : List Str) ++ (["_law_sixty_one"] : List Str)
abbrev R : PySem.W.OpenRow := PySem.W.OpenLaw.row PySem.Challenge.rw_sharesay_k53_rules_refused
abbrev hk : PySem.W.Hook := hookE' 4 fa fn ts tf ex es
def ob (s : PySem.W.SharedT) : AlE := obsE 4 fa fn ts tf ex es (HandSHeadRun.getT s)
theorem ob_eq (s : PySem.W.SharedT) : ob s = hk.obs s.abs := obsE_eq (HandSHeadRun.getT_eq s)
theorem runFa (w : World) : RunA R (PySem.W.view R.prog [28]) 60000 loose (w.withFollow "special-get-raises" false) := by
  intro os
  kernel_rfl
theorem runF_fa0 (w : World) : RunH R 60000 (w.withFollow "special-get-raises" false) (hFa 4 es fa0) true := by
  intro os
  kernel_rfl
theorem runF_fn0 (w : World) : RunH R 60000 (w.withFollow "special-get-raises" false) (hFn 4 es fn0) (He.valD fn0) := by
  intro os
  kernel_rfl
theorem runF_re (w : World) : RunH R 60000 (w.withFollow "special-get-raises" false) (hRest 4 ts tf ex es) (vRest ts es (w.withFollow "special-get-raises" false)) := by
  intro os
  kernel_rfl
theorem runFb (w : World) : RunB R hk ob 60000 (w.withFollow "special-get-raises" false) := run_parts (runF_fa0 w) (runF_fn0 w) (runF_re w)
theorem runTa (w : World) : RunA R (PySem.W.view R.prog [28]) 60000 loose (w.withFollow "special-get-raises" true) := by
  intro os
  kernel_rfl
theorem runT_fa0 (w : World) : RunH R 60000 (w.withFollow "special-get-raises" true) (hFa 4 es fa0) true := by
  intro os
  kernel_rfl
theorem runT_fn0 (w : World) : RunH R 60000 (w.withFollow "special-get-raises" true) (hFn 4 es fn0) (He.valD fn0) := by
  intro os
  kernel_rfl
theorem runT_re (w : World) : RunH R 60000 (w.withFollow "special-get-raises" true) (hRest 4 ts tf ex es) (vRest ts es (w.withFollow "special-get-raises" true)) := by
  intro os
  kernel_rfl
theorem runTb (w : World) : RunB R hk ob 60000 (w.withFollow "special-get-raises" true) := run_parts (runT_fa0 w) (runT_fn0 w) (runT_re w)
theorem run (w : World) : HandSHeadRun.RunEq R (PySem.W.view R.prog [28]) hk ob 60000 loose w :=
  PySem.W.byRow2 "special-get-raises" (P := fun w => HandSHeadRun.RunEq R (PySem.W.view R.prog [28]) hk ob 60000 loose w) (fun w => run_two (runFa w) (runFb w)) (fun w => run_two (runTa w) (runTb w)) w
end K53

namespace Y
open PySem L2
section
variable {K : PySem.W.Frag} {cl : Cls} {G G' : Hp}
theorem RPs.reverse {l : List P} {vs : List V} (r : RPs K cl G l vs) : RPs K cl G l.reverse vs.reverse := by
  induction l generalizing vs with
  | nil => cases r; exact .nil
  | cons x l ih =>
    cases r with
    | cons h r =>
      rw [List.reverse_cons, List.reverse_cons]
      exact (ih r).append (.cons h .nil)
end
section
variable {K : PySem.W.Frag} {cl : Cls} {ρ ρ' : List Addr} {G G' : Hp}
theorem pures_map (l : List P) : pures (l.map W.p) = some l := by
  induction l with
  | nil => rfl
  | cons x l ih =>
    show (pures (l.map W.p)).map (x :: ·) = _
    rw [ih]; rfl
end
section
variable {K : PySem.W.Frag} {cl : Cls} {E0 : En} {ρ ρ' : List Addr} {G G' : Hp} {st : List Cell} {H H' : Hp}
theorem Rel.cellN (R : Rel K cl E0 ρ G st H) {p : Addr} {o : HO} {c : Cell} (h : H p = none) (hc : c ≠ .dead) (h0 : E0.H0 p = none) (x : CA K cl (ρ ++ [p]) G (upd H p o) p c) : Rel K cl E0 (ρ ++ [p]) G (st ++ [c]) (upd H p o) := by
  have gp := R.gnone h
  have ne : ∀ (i : Nat) a, ρ[i]? = some a → a ≠ p := fun i a e z => by
    obtain ⟨u, q⟩ := R.there e
    rw [z, h] at q; cases q
  have pn : p ∉ ρ := fun m => by
    obtain ⟨i, hi⟩ := List.getElem?_of_mem m
    exact ne i p hi rfl
  have cut : ∀ (i : Nat) (d : Cell) a, (st ++ [c])[i]? = some d → (ρ ++ [p])[i]? = some a → (st[i]? = some d ∧ ρ[i]? = some a) ∨ (d = c ∧ a = p) := fun i d a e1 e2 => by
    by_cases hi : i < st.length
    · rw [List.getElem?_append_left hi] at e1
      rw [List.getElem?_append_left (by rw [R.len]; exact hi)] at e2
      exact .inl ⟨e1, e2⟩
    · have z : i = st.length := by
        have := (List.getElem?_eq_some_iff.mp e1).1
        rw [List.length_append] at this
        simp at this
        omega
      subst z
      rw [List.getElem?_append_right (Nat.le_refl _)] at e1
      rw [← R.len, List.getElem?_append_right (Nat.le_refl _)] at e2
      simp at e1 e2
      exact .inr ⟨e1.symm, e2.symm⟩
  refine ⟨by simp [R.len], ?_, fun i d a e1 e2 => ?_, fun i d a e1 e2 => ?_, fun a u e => ?_, fun a u e q => ?_, fun i a hi e => ?_, by rw [List.length_append]; exact Nat.le_trans R.n0 (Nat.le_add_right _ _), fun a u e => ?_, R.ent, R.gnt, fun q hq => tabs_new (R.tabs q hq) h⟩
  · exact List.nodup_append.mpr ⟨R.nd, by simp, fun a ha b hb => by simp at hb; subst hb; exact fun z => pn (z ▸ ha)⟩
  · rcases cut i d a e1 e2 with ⟨h1, h2⟩ | ⟨rfl, rfl⟩
    · exact (R.cell i d a h1 h2).mono (List.prefix_append _ _) (Sub.refl _) (upd_ne (ne i a h2))
    · exact x
  · rcases cut i d a e1 e2 with ⟨h1, h2⟩ | ⟨rfl, rfl⟩
    · exact R.sep i d a h1 h2
    · exact .inr gp
  · rw [upd_ne (fun z => by rw [z, gp] at e; cases e)]; exact R.sub a u e
  · have q2 := R.old a u e fun i hi z => q i hi (by
      have hl : i < ρ.length := Nat.lt_of_lt_of_le hi R.n0
      rw [List.getElem?_append_left hl]; exact z)
    rw [upd_ne (ne_of_none q2 h)]; exact q2
  · by_cases hl : i < ρ.length
    · rw [List.getElem?_append_left hl] at e; exact R.new i a hi e
    · rw [List.getElem?_append_right (by omega)] at e
      have : a = p := by
        have hz := (List.getElem?_eq_some_iff.mp e).1
        simp at hz
        rw [hz] at e; simp at e; exact e.symm
      subst this; exact h0
  · rcases R.grow a u e with q | q | ⟨i, hi, q⟩
    · exact .inl q
    · exact .inr (.inl q)
    · exact .inr (.inr ⟨i, hi, by rw [List.getElem?_append_left (Nat.lt_of_lt_of_le hi R.n0)]; exact q⟩)
theorem Rel.offF (R : Rel K cl E0 ρ G st H) {a : Addr} (h : strip H a = none) : (∀ i : Nat, ρ[i]? ≠ some a) ∧ E0.H0 a = none := by
  rcases strip_none h with h | ⟨ps, h⟩
  · refine ⟨fun i z => ?_, R.fresh0 h⟩
    obtain ⟨o, q⟩ := R.there z
    rw [h] at q; cases q
  · exact R.tblF h
theorem Rel.write (R : Rel K cl E0 ρ G st H) {i : Nat} {c d : Cell} {a : Addr} {o : HO} (h : st[i]? = some c) (hc : c ≠ .dead) (hd : d ≠ .dead) (ha : ρ[i]? = some a) (x : CA K cl ρ G (upd H a o) a d) :
    Rel K cl E0 ρ G (st.set i d) (upd H a o) := by
  have hi : i < st.length := (List.getElem?_eq_some_iff.mp h).1
  have ga : G a = none := (R.sep i c a h ha).resolve_left hc
  have same : ∀ (j : Nat) b, ρ[j]? = some b → b = a → j = i := fun j b e z => by
    subst z
    have h1 := List.getElem?_eq_some_iff.mp e
    have h2 := List.getElem?_eq_some_iff.mp ha
    exact (List.getElem_inj (h₀ := h1.1) (h₁ := h2.1) R.nd).mp (h1.2.trans h2.2.symm)
  obtain ⟨u0, hu0, pu0⟩ := (R.cell i c a h ha).po hc
  refine ⟨by rw [List.length_set]; exact R.len, R.nd, fun j e b e1 e2 => ?_, fun j e b e1 e2 => ?_, fun b u e => ?_, fun b u e q => ?_, R.new, R.n0, R.grow, R.ent, R.gnt, fun q hq => tabs_upd (R.tabs q hq) hu0 pu0⟩
  · by_cases hj : j = i
    · subst hj
      rw [List.getElem?_set_self hi] at e1
      rw [ha] at e2
      cases e1; cases e2; exact x
    · rw [List.getElem?_set_ne (Ne.symm hj)] at e1
      exact (R.cell j e b e1 e2).mono (List.prefix_refl _) (Sub.refl _) (upd_ne fun z => hj (same j b e2 z))
  · by_cases hj : j = i
    · subst hj
      rw [ha] at e2; cases e2
      exact .inr ga
    · rw [List.getElem?_set_ne (Ne.symm hj)] at e1
      exact R.sep j e b e1 e2
  · rw [upd_ne (fun z => by rw [z, ga] at e; cases e)]; exact R.sub b u e
  · have ne : b ≠ a := fun z => by
      subst z
      by_cases hn : i < E0.n0
      · exact q i hn ha
      · rw [R.new i b (by omega) ha] at e; cases e
    rw [upd_ne ne]; exact R.old b u e q
end
end Y
namespace Y
open PySem PySem.Spec PyProof.Rows L2
section
variable {X : Cx}
theorem TW'.pw {e : Expr} : PW X e (TW' X e) := ⟨fun wh pins s σ H Q I h => h wh pins s I⟩
end
section
variable {K : PySem.W.Frag} {cl : Cls} {X : Cx} {Wx : WX} {E0 : En} {ρ ρ' : List Addr} {G G' : Hp} {σ : Sg} {τ : L2.St} {st : List Cell} {H : Hp}
theorem Aft.newP {B : Bs} {x : P} {p : Addr} {o : HO} {Q : VK} {Z : ZX} (h : Aft B B.RW ρ G (.ok (.p x) st) Q Z) (R : B.Rel ρ G st H) (hp : H p = none) (u : RP B.K B.cl (upd G p o) x (.ref p)) (nt : NT o := by intro _ z; cases z) : Q (.ref p) (upd H p o) :=
  h ρ (upd G p o) (upd H p o) (.ref p) (List.prefix_refl _) (Sub.new (R.gnone hp)) (R.froze hp nt) u
theorem Aft.newC {B : Bs} {c : Cell} {p : Addr} {o : HO} {Q : VK} {Z : ZX} (h : Aft B B.RW ρ G (.ok (.r st.length) (st ++ [c])) Q Z) (R : B.Rel ρ G st H) (hp : H p = none) (hc : c ≠ .dead) (u : CA B.K B.cl (ρ ++ [p]) G (upd H p o) p c) : Q (.ref p) (upd H p o) :=
  h (ρ ++ [p]) G (upd H p o) (.ref p) (List.prefix_append _ _) (Sub.refl _) (R.cellN hp hc (R.fresh0 hp) u) ⟨p, by rw [← R.len]; simp, rfl⟩
def mC (x : P) : EM := fun _ st => .ok (.p x) st
theorem se_C {x : P} {v : V} {e : Expr} (h : PE X e (tC v)) (r : ∀ G, RP K cl G x v) : SE K cl X Wx (mC x) e :=
  ⟨fun E0 ρ G σ st τ H Q R S q => T.of h (Aft.here (b := v) q R (r G))⟩
theorem se_int {i : Int} {j : Nat} {pos : Pos} : SE K cl X Wx (mC (.int i)) (.Constant (.int i) j pos) := se_C pe_int fun _ => .int i
theorem se_bl {i : Bool} {j : Nat} {pos : Pos} : SE K cl X Wx (mC (.bl i)) (.Constant (.bool i) j pos) := se_C pe_bl fun _ => .bl i
theorem se_non {j : Nat} {pos : Pos} : SE K cl X Wx (mC .non) (.Constant .none j pos) := se_C pe_non fun _ => .non
theorem se_str {i : Str} {j : Nat} {pos : Pos} : SE K cl X Wx (mC (.str i)) (.Constant (.str i) j pos) := se_C pe_str fun _ => .str i
theorem se_glob {x : Str} {z : P} {v : V} {u : Value} {pos : Pos} (hg : Gl X x) (hm : X.mg x = some u) (r : RelV v u) (rp : ∀ G, RP K cl G z v) (hd : (x == ("__debug__" : Str)) = false := by decide +kernel) : SE K cl X Wx (mC z) (.Name x pos) := se_C (pe_glob hg hm r hd) rp
def mBin (f : W → W → List Cell → Res W) (a b : EM) : EM := fun σ st => (a σ st).bind fun x st1 => (b σ st1).bind fun y st2 => f x y st2
def VOp (K : PySem.W.Frag) (cl : Cls) (f : W → W → List Cell → Res W) (r : R2) : Prop :=
  ∀ E0 ρ G st H x y v u Q Z, (bs K cl E0).Rel ρ G st H → RW K cl ρ G x v → RW K cl ρ G y u → Aft (bs K cl E0) (bs K cl E0).RW ρ G (f x y st) Q Z → r v u H Q
theorem se_op {t : R2 → TE → TE → TE} {r : R2} {f : W → W → List Cell → Res W} {a b : EM} {pa pb e : Expr} (ht : ∀ σ H Q, (T X pa σ H fun x H1 => T X pb σ H1 fun y H2 => r x y H2 Q) → T X e σ H Q) (hf : VOp K cl f r)
    (ha : SE K cl X Wx a pa) (hb : SE K cl X Wx b pb) : SE K cl X Wx (mBin f a b) e := by
  refine ⟨fun E0 ρ G σ st τ H Q R S h => ht τ H Q ?_⟩
  refine ha.run E0 ρ G σ st τ H _ R S (Aft.seq h fun x st1 ρ1 G1 H1 v e1 p1 s1 R1 u1 h1 => ?_)
  refine hb.run E0 ρ1 G1 σ st1 τ H1 _ R1 (S.mono p1 s1) (Aft.seq h1 fun y st2 ρ2 G2 H2 u e2 p2 s2 R2 u2 h2 => ?_)
  exact hf E0 ρ2 G2 st2 H2 x y v u Q _ R2 (RW.mono p2 s2 u1) u2 h2
theorem se_bin {op : Operator} {r : R2} {f : W → W → List Cell → Res W} {a b : EM} {pa pb : Expr} {pos : Pos} (ho : OpR X (binaryOp op) r) (hf : VOp K cl f r) (ha : SE K cl X Wx a pa) (hb : SE K cl X Wx b pb) :
    SE K cl X Wx (mBin f a b) (.BinOp pa op pb pos) := se_op (t := tOp) (fun σ H Q q => T.of (pe_op ho T.pe T.pe) q) hf ha hb
theorem se_cmp {op : CmpOp} {r : R2} {f : W → W → List Cell → Res W} {a b : EM} {pa pb : Expr} {pos : Pos} (ho : OpR X (compareOp op) r) (hm : behindInMarks op pb = false) (hf : VOp K cl f r) (ha : SE K cl X Wx a pa) (hb : SE K cl X Wx b pb) :
    SE K cl X Wx (mBin f a b) (.Compare pa [op] [pb] pos) := se_op (t := tOp) (fun σ H Q q => T.of (pe_cmpR ho T.pe T.pe hm) q) hf ha hb
theorem VOp.or {f : W → W → List Cell → Res W} {r r' : R2} (h : ∀ E0 ρ G st H x y v u Q Z, (bs K cl E0).Rel ρ G st H → RW K cl ρ G x v → RW K cl ρ G y u → Aft (bs K cl E0) (bs K cl E0).RW ρ G (f x y st) Q Z → r v u H Q ∨ r' v u H Q) : VOp K cl f (fun x y H Q => r x y H Q ∨ r' x y H Q) := h
def lstOf (st : List Cell) : W → Option (List W)
  | .p (.lst l) => some (l.map .p)
  | .r i => match st[i]? with
    | some (.lst l) => some l
    | _ => none
  | _ => none
theorem lstOf_ok (R : (bs K cl E0).Rel ρ G st H) {w : W} {v : V} (r : RW K cl ρ G w v) {l : List W} (e : lstOf st w = some l) : ∃ a vs, v = .ref a ∧ H a = some (.lst vs) ∧ RWs K cl ρ G l vs := by
  cases w with
  | p x =>
    cases x with
    | lst m =>
      obtain rfl : m.map W.p = l := Option.some.inj e
      cases r with
      | lst h q => exact ⟨_, _, rfl, R.sub _ _ h, .of_pures q⟩
    | _ => cases e
  | r i =>
    obtain ⟨a, ha, rfl⟩ := r
    have e : (match st[i]? with | some (.lst l) => some l | _ => none) = some l := e
    split at e
    · rename_i m em
      cases e
      obtain ⟨b, hb, ⟨vs, h1, h2⟩, _⟩ := R.at em
      have hb : ρ[i]? = some b := hb
      rw [ha] at hb; cases hb
      exact ⟨a, vs, rfl, h1, h2⟩
    · cases e
def LIM : Nat := 1000000
theorem lim_le {n : Nat} (h : n ≤ LIM) : n ≤ sizeLine := by rw [sizeLine_eq]; unfold LIM at h; omega
def vI2 (C : Int → Int → Bool) (g : Int → Int → P) : W → W → List Cell → Res W
  | .p (.int i), .p (.int j), st => if C i j then .ok (.p (g i j)) st else .no
  | _, _, _ => .no
theorem vI2_ok {C : Int → Int → Bool} {g : Int → Int → P} {g' : Int → Int → V} (hg : ∀ i j G, RP K cl G (g i j) (g' i j)) {D : Int → Int → Prop} (hC : ∀ i j, C i j = true → D i j) : VOp K cl (vI2 C g) (rI D g') := by
  intro E0 ρ G st H x y v u Q Z R rx ry h
  unfold vI2 at h
  split at h
  · rename_i i j
    cases rx; cases ry
    split at h
    · rename_i hc
      exact ⟨i, j, rfl, rfl, hC i j hc, h.here R (hg i j G)⟩
    · exact h.elim
  · exact h.elim
theorem vI2_ok0 {g : Int → Int → P} {g' : Int → Int → V} (hg : ∀ i j G, RP K cl G (g i j) (g' i j)) : VOp K cl (vI2 (fun _ _ => true) g) (rI0 g') := by
  intro E0 ρ G st H x y v u Q Z R rx ry h
  unfold vI2 at h
  split at h
  · rename_i i j
    cases rx; cases ry
    exact ⟨i, j, rfl, rfl, h.here R (hg i j G)⟩
  · exact h.elim
end
end Y
namespace Y
open PySem PySem.Spec PyProof.Rows L2
section
variable {K : PySem.W.Frag} {cl : Cls} {X : Cx} {Wx : WX} {E0 : En} {ρ ρ' : List Addr} {G G' : Hp} {σ : Sg} {τ : L2.St} {st : List Cell} {H : Hp}
def vTru (st : List Cell) : W → Option Bool
  | .p .non => some false
  | .p (.bl b) => some b
  | .p (.int i) => some (i != 0)
  | .p (.str s) => if s.length ≤ LIM then some ((s.length : Int) != 0) else none
  | .p (.tup l) => some (!l.isEmpty)
  | .p (.lst l) => some (!l.isEmpty)
  | .p (.dk ks _) => some (!ks.isEmpty)
  | .r i => match st[i]? with
    | some (.lst l) => some (!l.isEmpty)
    | some (.dk ks _) => some (!ks.isEmpty)
    | _ => none
  | _ => none
theorem zip_empty {α β : Type} {l : List α} {m : List β} (h : l.length = m.length) : (l.zip m).isEmpty = l.isEmpty := by
  cases l with
  | nil => rfl
  | cons a l =>
    cases m with
    | nil => cases h
    | cons b m => rfl
theorem vTru_ok (R : (bs K cl E0).Rel ρ G st H) {w : W} {v : V} (r : RW K cl ρ G w v) {k : Bool} (e : vTru st w = some k) : TruV K v H k := by
  cases w with
  | p x =>
    cases r with
    | non => exact (Option.some.inj e).symm
    | bl b => exact (Option.some.inj e).symm
    | int i => exact (Option.some.inj e).symm
    | str s =>
      have e : (if s.length ≤ LIM then some ((s.length : Int) != 0) else none) = some k := e
      split at e
      · rename_i h
        exact ⟨lim_le h, (Option.some.inj e).symm⟩
      · cases e
    | tup h q => exact .inr (.inl ⟨_, R.sub.sqT h, by rw [← q.empty]; exact (Option.some.inj e).symm⟩)
    | lst h q => exact .inl ⟨_, .inl (.inl (R.sub _ _ h)), by rw [← q.empty]; exact (Option.some.inj e).symm⟩
    | dk h z q => exact .inr (.inr ⟨_, R.sub _ _ h, by rw [zip_empty z]; exact (Option.some.inj e).symm⟩)
    | scr h => cases e
    | obj c h z q => cases e
    | exn c x h d z q => cases e
    | lam _ _ _ _ _ => cases e
    | cls _ => cases e
    | fd _ _ _ => cases e
    | fn _ _ _ _ _ _ _ => cases e
  | r i =>
    obtain ⟨a, ha, rfl⟩ := r
    have e : (match st[i]? with | some (.lst l) => some (!l.isEmpty) | some (.dk ks _) => some (!ks.isEmpty) | _ => none) = some k := e
    split at e
    · rename_i m em
      obtain ⟨b, hb, ⟨vs, h1, h2⟩, _⟩ := R.at em
      have hb : ρ[i]? = some b := hb
      rw [ha] at hb; cases hb
      exact .inl ⟨vs, .inl (.inl h1), by rw [← h2.empty]; exact (Option.some.inj e).symm⟩
    · rename_i ks l em
      obtain ⟨b, hb, ⟨vs, h1, z, h2⟩, _⟩ := R.at em
      have hb : ρ[i]? = some b := hb
      rw [ha] at hb; cases hb
      exact .inr (.inr ⟨_, h1, by rw [zip_empty z]; exact (Option.some.inj e).symm⟩)
    · cases e
def mTru (m : EM) : TM := fun σ st => (m σ st).bind fun w st1 => match vTru st1 w with
  | some k => .ok k st1
  | none => .no
theorem st_tru {a : EM} {pa : Expr} (g : GX K X) (ha : SE K cl X Wx a pa) (he : ∀ whole, isTrue pa X.env whole = (do let v ← whole; standAt pa.pos; holding [v] (truthy v))) : ST K cl X Wx (mTru a) pa := by
  obtain ⟨hK, _⟩ := g
  subst hK
  refine ⟨fun E0 ρ G σ st τ H Q R S h => TT'.of (pt_truth T.pe he) ?_⟩
  refine ha.run E0 ρ G σ st τ H _ R S (Aft.seq h fun x st1 ρ1 G1 H1 v e1 p1 s1 R1 u1 h1 => ?_)
  cases e : vTru st1 x with
  | some k =>
    rw [e] at h1
    exact ⟨k, vTru_ok R1 u1 e, h1.here R1 rfl⟩
  | none => rw [e] at h1; exact h1.elim
def mTst (m : EM) : TM := fun σ st => (m σ st).bind fun w st1 => match w with
  | .p (.bl k) => .ok k st1
  | _ => .no
theorem st_cmp {op : CmpOp} {r : R2} {f : W → W → List Cell → Res W} {a b : EM} {pa pb : Expr} {pos : Pos} (ho : OpR X (compareOp op) r) (hm : behindInMarks op pb = false) (hf : VOp K cl f r) (ha : SE K cl X Wx a pa) (hb : SE K cl X Wx b pb) :
    ST K cl X Wx (mTst (mBin f a b)) (.Compare pa [op] [pb] pos) := by
  refine ⟨fun E0 ρ G σ st τ H Q R S h => TT'.of (pt_cmpR ho T.pe T.pe hm) ?_⟩
  have h : Aft (bs K cl E0) eqB ρ G ((a σ st).bind fun x st1 => (b σ st1).bind fun y st2 => (f x y st2).bind fun w st3 => match w with | .p (.bl k) => .ok k st3 | _ => .no) Q (fun c d H' => Wx c d τ H') := by
    have e : mTst (mBin f a b) σ st = ((a σ st).bind fun x st1 => (b σ st1).bind fun y st2 => (f x y st2).bind fun w st3 => match w with | .p (.bl k) => .ok k st3 | _ => .no) := by
      unfold mTst mBin Res.bind
      cases a σ st with
      | ok x st1 =>
        dsimp only
        cases b σ st1 with
        | ok y st2 => rfl
        | exc _ _ => rfl
        | no => rfl
      | exc _ _ => rfl
      | no => rfl
    rw [← e]; exact h
  refine ha.run E0 ρ G σ st τ H _ R S (Aft.seq h fun x st1 ρ1 G1 H1 v e1 p1 s1 R1 u1 h1 => ?_)
  refine hb.run E0 ρ1 G1 σ st1 τ H1 _ R1 (S.mono p1 s1) (Aft.seq h1 fun y st2 ρ2 G2 H2 u e2 p2 s2 R2 u2 h2 => ?_)
  refine hf E0 ρ2 G2 st2 H2 x y v u _ _ R2 (RW.mono p2 s2 u1) u2 (Aft.seq h2 fun w st3 ρ3 G3 H3 z e3 p3 s3 R3 u3 h3 => ?_)
  cases w with
  | p w =>
    cases u3 with
    | bl k => exact ⟨k, rfl, h3.here R3 rfl⟩
    | _ => exact h3.elim
  | r i => exact h3.elim
def mAndT (a b : TM) : TM := fun σ st => (a σ st).bind fun c st1 => if c = true then b σ st1 else .ok false st1
def mOrT (a b : TM) : TM := fun σ st => (a σ st).bind fun c st1 => if c = true then .ok true st1 else b σ st1
def mNotT (a : TM) : TM := fun σ st => (a σ st).bind fun c st1 => .ok (!c) st1
theorem sw_pt {a : TM} {pa : Expr} (h : SW K cl X Wx a pa) : ST K cl X Wx a pa := ⟨fun E0 ρ G σ st τ H Q R S q => TT'.of (TW'.pw.pt) (h.run E0 ρ G σ st τ H Q R S q)⟩
theorem sw_and1 {a : TM} {pa : Expr} {pos : Pos} (h : ST K cl X Wx a pa) : SW K cl X Wx a (.BoolOp .And [pa] pos) := ⟨fun E0 ρ G σ st τ H Q R S q => TW'.of (pw_and1 TT'.pt) (h.run E0 ρ G σ st τ H Q R S q)⟩
theorem sw_or1 {a : TM} {pa : Expr} {pos : Pos} (h : ST K cl X Wx a pa) : SW K cl X Wx a (.BoolOp .Or [pa] pos) := ⟨fun E0 ρ G σ st τ H Q R S q => TW'.of (pw_or1 TT'.pt) (h.run E0 ρ G σ st τ H Q R S q)⟩
theorem sw_and {a b : TM} {pa pb : Expr} {rest : List Expr} {pos : Pos} (ha : ST K cl X Wx a pa) (hb : SW K cl X Wx b (.BoolOp .And (pb :: rest) pos)) : SW K cl X Wx (mAndT a b) (.BoolOp .And (pa :: pb :: rest) pos) := by
  refine ⟨fun E0 ρ G σ st τ H Q R S h => TW'.of (pw_and TT'.pt TW'.pw) ?_⟩
  refine ha.run E0 ρ G σ st τ H _ R S (Aft.seq h fun c st1 ρ1 G1 H1 d e1 p1 s1 R1 u1 h1 => ?_)
  obtain rfl : c = d := u1
  cases c with
  | true => exact hb.run E0 ρ1 G1 σ st1 τ H1 Q R1 (S.mono p1 s1) h1
  | false => exact h1.here R1 rfl
theorem sw_or {a b : TM} {pa pb : Expr} {rest : List Expr} {pos : Pos} (ha : ST K cl X Wx a pa) (hb : SW K cl X Wx b (.BoolOp .Or (pb :: rest) pos)) : SW K cl X Wx (mOrT a b) (.BoolOp .Or (pa :: pb :: rest) pos) := by
  refine ⟨fun E0 ρ G σ st τ H Q R S h => TW'.of (pw_or TT'.pt TW'.pw) ?_⟩
  refine ha.run E0 ρ G σ st τ H _ R S (Aft.seq h fun c st1 ρ1 G1 H1 d e1 p1 s1 R1 u1 h1 => ?_)
  obtain rfl : c = d := u1
  cases c with
  | true => exact h1.here R1 rfl
  | false => exact hb.run E0 ρ1 G1 σ st1 τ H1 Q R1 (S.mono p1 s1) h1
theorem st_not {a : TM} {pa : Expr} {pos : Pos} (ha : ST K cl X Wx a pa) : ST K cl X Wx (mNotT a) (.UnaryOp .Not pa pos) := by
  refine ⟨fun E0 ρ G σ st τ H Q R S h => TT'.of (pt_not TT'.pt) ?_⟩
  refine ha.run E0 ρ G σ st τ H _ R S (Aft.seq h fun c st1 ρ1 G1 H1 d e1 p1 s1 R1 u1 h1 => ?_)
  obtain rfl : c = d := u1
  exact h1.here R1 rfl
def mAndV (a b : EM) : EM := fun σ st => (a σ st).bind fun w st1 => match w with
  | .p (.bl c) => if c = true then b σ st1 else .ok (.p (.bl false)) st1
  | _ => .no
def mOrV (a b : EM) : EM := fun σ st => (a σ st).bind fun w st1 => match w with
  | .p (.bl c) => if c = true then .ok (.p (.bl true)) st1 else b σ st1
  | _ => .no
def mNotV (a : EM) : EM := fun σ st => (a σ st).bind fun w st1 => match w with
  | .p (.bl c) => .ok (.p (.bl (!c))) st1
  | _ => .no
theorem se_one {op : BoolOp} {a : EM} {pa : Expr} {pos : Pos} (h : SE K cl X Wx a pa) : SE K cl X Wx a (.BoolOp op [pa] pos) := ⟨fun E0 ρ G σ st τ H Q R S q => T.of (pe_one T.pe) (h.run E0 ρ G σ st τ H Q R S q)⟩
theorem se_and {a b : EM} {pa pb : Expr} {rest : List Expr} {pos : Pos} (ha : SE K cl X Wx a pa) (hb : SE K cl X Wx b (.BoolOp .And (pb :: rest) pos)) : SE K cl X Wx (mAndV a b) (.BoolOp .And (pa :: pb :: rest) pos) := by
  refine ⟨fun E0 ρ G σ st τ H Q R S h => T.of (pe_and T.pe T.pe) ?_⟩
  refine ha.run E0 ρ G σ st τ H _ R S (Aft.seq h fun w st1 ρ1 G1 H1 v e1 p1 s1 R1 u1 h1 => ?_)
  cases w with
  | p w =>
    cases u1 with
    | bl c =>
      refine ⟨c, rfl, ?_⟩
      cases c with
      | true => exact hb.run E0 ρ1 G1 σ st1 τ H1 Q R1 (S.mono p1 s1) h1
      | false => exact Aft.here (b := V.bl false) h1 R1 (RP.bl false)
    | _ => exact h1.elim
  | r i => exact h1.elim
theorem se_not {a : EM} {pa : Expr} {pos : Pos} (ha : SE K cl X Wx a pa) : SE K cl X Wx (mNotV a) (.UnaryOp .Not pa pos) := by
  refine ⟨fun E0 ρ G σ st τ H Q R S h => T.of (pe_not T.pe) ?_⟩
  refine ha.run E0 ρ G σ st τ H _ R S (Aft.seq h fun w st1 ρ1 G1 H1 v e1 p1 s1 R1 u1 h1 => ?_)
  cases w with
  | p w =>
    cases u1 with
    | bl c => exact ⟨c, rfl, Aft.here (b := V.bl (!c)) h1 R1 (RP.bl (!c))⟩
    | _ => exact h1.elim
  | r i => exact h1.elim
def mIfE (c : TM) (a b : EM) : EM := fun σ st => (c σ st).bind fun k st1 => if k = true then a σ st1 else b σ st1
def mNil : AM := fun _ st => .ok [] st
def mCons (a : EM) (r : AM) : AM := fun σ st => (a σ st).bind fun w st1 => (r σ st1).bind fun ws st2 => .ok (w :: ws) st2
theorem sa_nil : SA K cl X Wx mNil [] := ⟨fun E0 ρ G σ st τ H Q R S h => TA'.of pa_nil (Aft.here (b := ([] : List V)) h R .nil)⟩
theorem sa_cons {a : EM} {r : AM} {e : Expr} {es : List Expr} (ha : SE K cl X Wx a e) (hr : SA K cl X Wx r es) (hs : starEach (e :: es) X.env = (false, eval e X.env) :: starEach es X.env) : SA K cl X Wx (mCons a r) (e :: es) := by
  refine ⟨fun E0 ρ G σ st τ H Q R S h => TA'.of (pa_cons T.pe TA'.pa hs) ?_⟩
  refine ha.run E0 ρ G σ st τ H _ R S (Aft.seq h fun w st1 ρ1 G1 H1 v e1 p1 s1 R1 u1 h1 => ?_)
  refine hr.run E0 ρ1 G1 σ st1 τ H1 _ R1 (S.mono p1 s1) (Aft.seq h1 fun ws st2 ρ2 G2 H2 vs e2 p2 s2 R2 u2 h2 => ?_)
  exact Aft.here (b := v :: vs) h2 R2 (.cons (RW.mono p2 s2 u1) u2)
def mTup (a : AM) : EM := fun σ st => (a σ st).bind fun ws st1 => match pures ws with
  | some l => if l.length ≤ LIM then .ok (.p (.tup l)) st1 else .no
  | none => .no
def mLst (a : AM) : EM := fun σ st => (a σ st).bind fun ws st1 => match pures ws with
  | some l => if l.length ≤ LIM then .ok (.p (.lst l)) st1 else .no
  | none => .no
def mLstC (a : AM) : EM := fun σ st => (a σ st).bind fun ws st1 => if ws.length ≤ LIM then .ok (.r st1.length) (st1 ++ [.lst ws]) else .no
theorem se_tup {a : AM} {es : List Expr} {k : Nat} {pos : Pos} (ha : SA K cl X Wx a es) : SE K cl X Wx (mTup a) (.Tuple es k pos) := by
  refine ⟨fun E0 ρ G σ st τ H Q R S h => T.of (pe_tup TA'.pa) ?_⟩
  refine ha.run E0 ρ G σ st τ H _ R S (Aft.seq h fun ws st1 ρ1 G1 H1 vs e1 p1 s1 R1 u1 h1 => ?_)
  cases e : pures ws with
  | none => rw [e] at h1; exact h1.elim
  | some l =>
    rw [e] at h1
    have q := u1.pures e
    dsimp only at h1
    split at h1
    · rename_i hl
      refine ⟨by rw [← q.length]; exact lim_le hl, fun p hp => ?_⟩
      exact h1.newP R1 hp (.tup (.inl (.inl upd_same)) (q.mono (Sub.new (R1.gnone hp))))
    · exact h1.elim
theorem se_lst {a : AM} {es : List Expr} {pos : Pos} (ha : SA K cl X Wx a es) : SE K cl X Wx (mLst a) (.List es pos) := by
  refine ⟨fun E0 ρ G σ st τ H Q R S h => T.of (pe_lst TA'.pa) ?_⟩
  refine ha.run E0 ρ G σ st τ H _ R S (Aft.seq h fun ws st1 ρ1 G1 H1 vs e1 p1 s1 R1 u1 h1 => ?_)
  cases e : pures ws with
  | none => rw [e] at h1; exact h1.elim
  | some l =>
    rw [e] at h1
    have q := u1.pures e
    dsimp only at h1
    split at h1
    · rename_i hl
      refine ⟨by rw [← q.length]; exact lim_le hl, fun p hp => ?_⟩
      exact h1.newP R1 hp (.lst upd_same (q.mono (Sub.new (R1.gnone hp))))
    · exact h1.elim
theorem se_lstC {a : AM} {es : List Expr} {pos : Pos} (ha : SA K cl X Wx a es) : SE K cl X Wx (mLstC a) (.List es pos) := by
  refine ⟨fun E0 ρ G σ st τ H Q R S h => T.of (pe_lst TA'.pa) ?_⟩
  refine ha.run E0 ρ G σ st τ H _ R S (Aft.seq h fun ws st1 ρ1 G1 H1 vs e1 p1 s1 R1 u1 h1 => ?_)
  split at h1
  · rename_i hl
    refine ⟨by rw [← u1.length]; exact lim_le hl, fun p hp => ?_⟩
    exact h1.newC R1 hp (fun z => by cases z) ⟨vs, upd_same, RWs.mono (List.prefix_append _ _) (Sub.refl _) u1⟩
  · exact h1.elim
def VCall (K : PySem.W.Frag) (cl : Cls) (f : List W → List Cell → Res W) (r : List V → Hp → VK → Prop) : Prop :=
  ∀ E0 ρ G st H ws vs Q Z, (bs K cl E0).Rel ρ G st H → RWs K cl ρ G ws vs → Aft (bs K cl E0) (bs K cl E0).RW ρ G (f ws st) Q Z → r vs H Q
def mCallV (f : List W → List Cell → Res W) (a : AM) : EM := fun σ st => (a σ st).bind f
theorem se_callB {id : String} {r : List V → Hp → VK → Prop} {f : List W → List Cell → Res W} {a : AM} {x : Str} {p pos : Pos} {e : Expr} {es : List Expr} (hc : CallR X (.builtin id) r) (hf : VCall K cl f r) (hg : Gl X x) (hm : X.mg x = none) (hv : bootBuiltins x = some (.builtin id))
    (ha : SA K cl X Wx a (e :: es)) (hn : x ≠ "__name__") (hdb : (x == ("__debug__" : Str)) = false)
    (he : starEach (e :: es) X.env = (false, eval e X.env) :: starEach es X.env) (hpl : (backTo pos (starEach es X.env)).any (·.1) = false) : SE K cl X Wx (mCallV f a) (.Call (.Name x p) (e :: es) [] pos) := by
  refine ⟨fun E0 ρ G σ st τ H Q R S h => T.of (pe_callB hc hg hm hv TA'.pa hn hdb he hpl) ?_⟩
  exact ha.run E0 ρ G σ st τ H _ R S (Aft.seq h fun ws st1 ρ1 G1 H1 vs e1 p1 s1 R1 u1 h1 => hf E0 ρ1 G1 st1 H1 ws vs Q _ R1 u1 h1)
theorem se_callT {id : String} {r : List V → Hp → VK → Prop} {f : List W → List Cell → Res W} {a : AM} {x : Str} {p pos : Pos} {e : Expr} {es : List Expr} (hc : CallR X (.type id) r) (hf : VCall K cl f r) (hg : Gl X x) (hm : X.mg x = none) (hv : bootBuiltins x = some (.type id))
    (ha : SA K cl X Wx a (e :: es)) (hn : x ≠ "__name__") (hdb : (x == ("__debug__" : Str)) = false)
    (he : starEach (e :: es) X.env = (false, eval e X.env) :: starEach es X.env) (hpl : (backTo pos (starEach es X.env)).any (·.1) = false) : SE K cl X Wx (mCallV f a) (.Call (.Name x p) (e :: es) [] pos) := by
  refine ⟨fun E0 ρ G σ st τ H Q R S h => T.of (pe_callTy hc hg hm hv TA'.pa hn hdb he hpl) ?_⟩
  exact ha.run E0 ρ G σ st τ H _ R S (Aft.seq h fun ws st1 ρ1 G1 H1 vs e1 p1 s1 R1 u1 h1 => hf E0 ρ1 G1 st1 H1 ws vs Q _ R1 u1 h1)
theorem se_ix {r : R2} {f : W → W → List Cell → Res W} {a b : EM} {pa pb : Expr} {pos : Pos} (hr : IxR X r) (hf : VOp K cl f r) (hs : PlainIx pb) (ha : SE K cl X Wx a pa) (hb : SE K cl X Wx b pb) :
    SE K cl X Wx (mBin f a b) (.Subscript pa pb pos) := se_op (t := tOp) (fun σ H Q q => T.of (pe_ix hr T.pe T.pe hs) q) hf ha hb
theorem RWs.atI {l : List W} {vs : List V} (r : RWs K cl ρ G l vs) {i : Int} {w : W} (h : L2.atI l i = some w) : ∃ v, L2.atI vs i = some v ∧ RW K cl ρ G w v := by
  unfold L2.atI at h ⊢
  rw [← r.length]
  cases e : ixN l.length i with
  | none => rw [e] at h; cases h
  | some j =>
    rw [e] at h
    exact r.get h
theorem RPs.atI {l : List P} {vs : List V} (r : RPs K cl G l vs) {i : Int} {w : P} (h : L2.atI l i = some w) : ∃ v, L2.atI vs i = some v ∧ RP K cl G w v := by
  unfold L2.atI at h ⊢
  rw [← r.length]
  cases e : ixN l.length i with
  | none => rw [e] at h; cases h
  | some j =>
    rw [e] at h
    exact r.get h
def vIx (x y : W) (st : List Cell) : Res W := match y with
  | .p (.int i) => match x with
    | .p (.tup l) => match L2.atI l i with
      | some z => .ok (.p z) st
      | none => .no
    | .p (.str s) => if s.length ≤ LIM then match L2.atI s.cps.toList i with
      | some c => .ok (.p (.str ⟨#[c]⟩)) st
      | none => .no else .no
    | _ => match lstOf st x with
      | some l => match L2.atI l i with
        | some z => .ok z st
        | none => .no
      | none => .no
  | _ => .no
theorem vIx_ok : VOp K cl vIx (rIx K) := by
  intro E0 ρ G st H x y v u Q Z R rx ry h
  unfold vIx at h
  split at h
  · rename_i i
    cases ry
    split at h
    · rename_i l
      cases rx with
      | tup hs q =>
        split at h
        · rename_i z e
          obtain ⟨v, e2, r2⟩ := q.atI e
          exact .inr (.inl ⟨_, _, i, v, rfl, rfl, R.sub.sqT hs, e2, h.here R r2⟩)
        · exact h.elim
    · rename_i s
      cases rx
      split at h
      · rename_i hl
        split at h
        · rename_i c e
          exact .inr (.inr ⟨s, i, c, rfl, rfl, lim_le hl, e, h.here R (RP.str _)⟩)
        · exact h.elim
      · exact h.elim
    · split at h
      · rename_i l e
        obtain ⟨a, vs, rfl, h1, h2⟩ := lstOf_ok R rx e
        split at h
        · rename_i z e2
          obtain ⟨v, e3, r3⟩ := h2.atI e2
          exact .inl ⟨a, vs, i, v, rfl, rfl, .inl (.inl h1), e3, h.here R r3⟩
        · exact h.elim
      · exact h.elim
  · exact h.elim
def vLen (ws : List W) (st : List Cell) : Res W := match ws with
  | [.p (.tup l)] => .ok (.p (.int l.length)) st
  | [.p (.str s)] => if s.length ≤ LIM then .ok (.p (.int s.length)) st else .no
  | [.p (.dk ks _)] => .ok (.p (.int ks.length)) st
  | [w] => match lstOf st w with
    | some l => .ok (.p (.int l.length)) st
    | none => match w with
      | .r i => match st[i]? with
        | some (.dk ks _) => .ok (.p (.int ks.length)) st
        | _ => .no
      | _ => .no
  | _ => .no
def rLen (K : PySem.W.Frag) : List V → Hp → VK → Prop := fun xs H Q => (∃ x n, xs = [x] ∧ LenV K x H n ∧ Q (.int n) H) ∨ ∃ a kvs, xs = [V.ref a] ∧ H a = some (.dK kvs) ∧ Q (.int kvs.length) H
theorem call_lenA : CallR X (.builtin "len") (rLen X.K) := call_len.or call_lenD
theorem zip_len {α β : Type} {l : List α} {m : List β} (h : l.length = m.length) : (l.zip m).length = l.length := by
  rw [List.length_zip, h, Nat.min_self]
theorem vLen_ok : VCall K cl vLen (rLen K) := by
  intro E0 ρ G st H ws vs Q Z R rw' h
  unfold vLen at h
  split at h
  · rename_i l
    cases rw' with
    | cons r rn =>
      cases rn
      cases r with
      | tup hs q => exact .inl ⟨_, _, rfl, .inr ⟨_, R.sub.sqT hs, rfl⟩, by rw [← q.length]; exact h.here R (RP.int _)⟩
  · rename_i s
    cases rw' with
    | cons r rn =>
      cases rn
      cases r
      split at h
      · rename_i hl
        exact .inl ⟨_, _, rfl, ⟨lim_le hl, rfl⟩, h.here R (RP.int _)⟩
      · exact h.elim
  · rename_i ks l
    cases rw' with
    | cons r rn =>
      cases rn
      cases r with
      | dk hs z q => exact .inr ⟨_, _, rfl, R.sub _ _ hs, by rw [zip_len z]; exact h.here R (RP.int _)⟩
  · rename_i w _ _ _
    cases rw' with
    | cons r rn =>
      cases rn
      split at h
      · rename_i l e
        obtain ⟨a, vs, rfl, h1, h2⟩ := lstOf_ok R r e
        exact .inl ⟨_, _, rfl, .inl ⟨vs, .inl (.inl h1), rfl⟩, by rw [← h2.length]; exact h.here R (RP.int _)⟩
      · split at h
        · rename_i i _
          obtain ⟨a, ha, rfl⟩ := r
          split at h
          · rename_i ks l em
            obtain ⟨b, hb, ⟨vs, h1, z, h2⟩, _⟩ := R.at em
            cases Option.some.inj (ha.symm.trans hb)
            exact .inr ⟨_, _, rfl, h1, by rw [zip_len z]; exact h.here R (RP.int _)⟩
          · exact h.elim
        · exact h.elim
  · exact h.elim
end
end Y
namespace Y
open PySem PySem.Spec PyProof.Rows L2
section
variable {K : PySem.W.Frag} {cl : Cls} {X : Cx} {Wx : WX} {E0 : En} {ρ ρ' : List Addr} {G G' : Hp} {σ : Sg} {τ : L2.St} {st : List Cell} {H : Hp} {D : Ends}
def sSeq (a b : SMm) : SMm := fun σ st => (a σ st).then b
theorem ss_nil : SSs K cl X Wx sNx [] := ⟨fun E0 ρ G σ st τ H D R S h => TSs'.of pss_nil (AftS.nx h R S)⟩
theorem ss_one {a : SMm} {s : Stmt} (h : SS K cl X Wx a s) : SSs K cl X Wx a [s] := ⟨fun E0 ρ G σ st τ H D R S q => TSs'.of (pss_one TS'.ps) (h.run E0 ρ G σ st τ H D R S q)⟩
theorem ss_cons {a b : SMm} {s : Stmt} {ss : List Stmt} (h1 : SS K cl X Wx a s) (h2 : SSs K cl X Wx b ss) : SSs K cl X Wx (sSeq a b) (s :: ss) := by
  refine ⟨fun E0 ρ G σ st τ H D R S h => TSs'.of (pss_cons TS'.ps TSs'.pss) ?_⟩
  refine h1.run E0 ρ G σ st τ H _ R S (AftS.thn (D' := { D with nx := TSs' X ss D }) h (fun σ1 st1 ρ1 G1 H1 τ1 e p s R1 S1 h1 => ?_) rfl rfl rfl)
  exact h2.run E0 ρ1 G1 σ1 st1 τ1 H1 D R1 S1 h1
def sPass : SMm := sNx
def sBrk : SMm := fun σ st => .ok .bk σ st
def sCnt : SMm := fun σ st => .ok .ct σ st
def sRet (m : EM) : SMm := fun σ st => (m σ st).to σ fun w st1 => .ok (.rt w) σ st1
theorem ss_ret {m : EM} {e : Expr} {pos : Pos} (h : SE K cl X Wx m e) : SS K cl X Wx (sRet m) (.Return (some e) pos) := by
  refine ⟨fun E0 ρ G σ st τ H D R S q => TS'.of (ps_ret T.pe) ?_⟩
  exact h.run E0 ρ G σ st τ H _ R S (AftS.seq S q fun w st1 ρ1 G1 H1 v e1 p1 s1 R1 u1 h1 => AftS.rt h1 R1 (RS.mono p1 s1 S) u1)
def sRetN : SMm := fun σ st => .ok (.rt (.p .non)) σ st
def sExpr (m : EM) : SMm := fun σ st => (m σ st).to σ fun _ st1 => .ok .nx σ st1
theorem ss_expr {m : EM} {e : Expr} {pos : Pos} (h : SE K cl X Wx m e) (hs : swapsWith e none pos.line X.env = pure false) : SS K cl X Wx (sExpr m) (.Expr e pos) := by
  refine ⟨fun E0 ρ G σ st τ H D R S q => TS'.of (ps_expr T.pe hs) ?_⟩
  exact h.run E0 ρ G σ st τ H _ R S (AftS.seq S q fun w st1 ρ1 G1 H1 v e1 p1 s1 R1 u1 h1 => AftS.nx h1 R1 (RS.mono p1 s1 S))
def sSet (i : Nat) (m : EM) : SMm := fun σ st => (m σ st).to σ fun w st1 => .ok .nx (σ.set i (some w)) st1
theorem ss_set {i : Nat} {m : EM} {x : Str} {e : Expr} {pos pos' : Pos} (g : GX K X) (hi : X.N[i]? = some x) (hx : Loc X.env.scope x) (h : SE K cl X Wx m e) (hs : swapsWith e (some (.Name x pos')) pos.line X.env = pure false)
    (hf : X.fn x = true ∨ X.env.scope.names.lookup x = some .local) : SS K cl X Wx (sSet i m) (.Assign [.Name x pos'] e pos) := by
  refine ⟨fun E0 ρ G σ st τ H D R S q => TS'.of (ps_set g.hN hi hx T.pe hs hf) ?_⟩
  exact h.run E0 ρ G σ st τ H _ R S (AftS.seq S q fun w st1 ρ1 G1 H1 v e1 p1 s1 R1 u1 h1 => AftS.nx h1 R1 ((RS.mono p1 s1 S).set u1 i))
def sIf (c : TM) (a b : SMm) : SMm := fun σ st => (c σ st).to σ fun k st1 => if k = true then a σ st1 else b σ st1
theorem ss_if {c : TM} {a b : SMm} {e : Expr} {sa sb : List Stmt} {pos : Pos} (hc : ST K cl X Wx c e) (ha : SSs K cl X Wx a sa) (hb : SSs K cl X Wx b sb) : SS K cl X Wx (sIf c a b) (.If e sa sb pos) := by
  refine ⟨fun E0 ρ G σ st τ H D R S q => TS'.of (ps_if TT'.pt TSs'.pss TSs'.pss) ?_⟩
  refine hc.run E0 ρ G σ st τ H _ R S (AftS.seq S q fun k st1 ρ1 G1 H1 k' e1 p1 s1 R1 u1 h1 => ?_)
  obtain rfl : k = k' := u1
  cases k with
  | true => exact ha.run E0 ρ1 G1 σ st1 τ H1 D R1 (S.mono p1 s1) h1
  | false => exact hb.run E0 ρ1 G1 σ st1 τ H1 D R1 (S.mono p1 s1) h1
theorem TGsc.pgs {es : List Expr} : PGs X es (TGsc X es) := ⟨fun pins s σ H vs us Q I r h => h pins s us I r⟩
theorem wipe_get {σ : L2.St} {j : Nat} : ∀ {vs : List Nat}, (wipe σ vs)[j]? = if j ∈ vs ∧ j < σ.length then some none else σ[j]?
  | [] => by simp [wipe]
  | v :: vs => by
    have ih := wipe_get (σ := σ) (j := j) (vs := vs)
    unfold wipe
    by_cases h : v = j
    · subst h
      by_cases hl : v < σ.length
      · rw [List.getElem?_set_self (by rw [wipe_length]; exact hl), if_pos ⟨List.mem_cons_self, hl⟩]
      · rw [if_neg (fun z => hl z.2), List.getElem?_eq_none (by rw [List.length_set, wipe_length]; omega), List.getElem?_eq_none (by omega)]
    · rw [List.getElem?_set_ne h, ih]
      have : j ∈ v :: vs ↔ j ∈ vs := by
        rw [List.mem_cons]
        exact ⟨fun z => z.resolve_left (fun q => h q.symm), .inr⟩
      simp only [this]
theorem wipe_eq {σ σ' : L2.St} {vs : List Nat} (hl : σ.length = σ'.length) (h : ∀ j, j ∉ vs → σ[j]? = σ'[j]?) : wipe σ vs = wipe σ' vs := by
  refine List.ext_getElem? fun j => ?_
  rw [wipe_get, wipe_get, hl]
  by_cases hj : j ∈ vs
  · by_cases hk : j < σ'.length
    · rw [if_pos ⟨hj, hk⟩, if_pos ⟨hj, hk⟩]
    · rw [if_neg (fun z => hk z.2), if_neg (fun z => hk z.2), List.getElem?_eq_none (by omega), List.getElem?_eq_none (by omega)]
  · rw [if_neg (fun z => hj z.1), if_neg (fun z => hj z.1)]; exact h j hj
theorem wipe_set {σ : L2.St} {i : Nat} {x : Option V} {vs : List Nat} (h : i ∈ vs) : wipe (σ.set i x) vs = wipe σ vs :=
  wipe_eq (List.length_set ..) fun j hj => List.getElem?_set_ne (fun z => hj (by rw [← z]; exact h))
theorem wipe_wipe {σ : L2.St} {vs : List Nat} : wipe (wipe σ vs) vs = wipe σ vs :=
  wipe_eq (wipe_length ..) fun j hj => by rw [wipe_get, if_neg (fun z => hj z.1)]
theorem sg_name {i : Nat} {x : Str} {pos : Pos} (g : GX K X) (hi : X.N[i]? = some x) (hx : Loc X.env.scope x) (hf : X.fn x = true ∨ X.env.scope.names.lookup x = some .local) : SG K cl X (.nm i) (.Name x pos) := by
  refine ⟨fun ρ G H w v σ σ' τ Q sub S r e k => TGc.of (pg_name g.hN hi hx hf) ?_⟩
  have e : some (σ.set i (some w)) = some σ' := by simpa [Tg.put] using e
  cases e
  exact k _ (S.set r i) fun vs h => wipe_set (h i (by simp [Tg.slots]))
theorem sgs_nil : SGs K cl X [] [] := by
  refine ⟨fun ρ G H l vs σ σ' τ Q sub S r e k => TGsc.of pgs_nil ?_⟩
  cases r with
  | nil =>
    have e : some σ = some σ' := by simpa [Tg.puts] using e
    cases e
    exact ⟨rfl, k _ S fun _ _ => rfl⟩
  | cons _ _ => simp [Tg.puts] at e
theorem sgs_cons {t : Tg} {ts : List Tg} {e : Expr} {es : List Expr} (h1 : SG K cl X t e) (h2 : SGs K cl X ts es) (hs : (assignEach (e :: es) X.env).map (·.2) = PySem.assign e X.env :: (assignEach es X.env).map (·.2)) : SGs K cl X (t :: ts) (e :: es) := by
  refine ⟨fun ρ G H l vs σ σ' τ Q sub S r e k => TGsc.of (pgs_cons TGc.pg TGsc.pgs hs) ?_⟩
  cases r with
  | nil => simp [Tg.puts] at e
  | cons r rs =>
    simp only [Tg.puts] at e
    split at e
    · rename_i σ1 e1
      refine ⟨_, _, rfl, ?_⟩
      exact h1.run ρ G H (.p _) _ σ σ1 τ _ sub S r e1 fun τ1 S1 w1 => h2.run ρ G H _ _ σ1 σ' τ1 Q sub S1 rs e fun τ2 S2 w2 => k τ2 S2 fun vs h =>
        (w2 vs fun i hi => h i (by simp [Tg.slotss, hi])).trans (w1 vs fun i hi => h i (by simp [Tg.slotss, hi]))
    · cases e
theorem puts_len : ∀ {ts : List Tg} {l : List P} {σ σ' : Sg}, Tg.puts ts l σ = some σ' → l.length = ts.length
  | [], [], _, _, _ => rfl
  | t :: ts, x :: l, σ, σ', e => by
    simp only [Tg.puts] at e
    split at e
    · exact congrArg Nat.succ (puts_len e)
    · cases e
  | [], _ :: _, _, _, e => by simp [Tg.puts] at e
  | _ :: _, [], _, _, e => by simp [Tg.puts] at e
theorem sg_tup {ts : List Tg} {es : List Expr} {k : Nat} {pos : Pos} (g : GX K X) (h : SGs K cl X ts es) (hl : es.length = ts.length) (hn : (assignEach es X.env).length = es.length) (hst : (assignEach es X.env).findIdx? (·.1) = none) : SG K cl X (.tp ts) (.Tuple es k pos) := by
  refine ⟨fun ρ G H w v σ σ' τ Q sub S r e k => TGc.of (pg_tup (n := es.length) g.hc TGsc.pgs hn hst) ?_⟩
  cases w with
  | r i => simp [Tg.put] at e
  | p x =>
    cases r with
    | tup hs q =>
      simp only [Tg.put] at e
      refine ⟨_, _, rfl, ?_, ?_, h.run ρ G H _ _ σ σ' τ Q sub S q e k⟩
      · rw [g.hK]; exact sub.sqT hs
      · rw [← q.length, hl]; exact puts_len e
    | _ => simp [Tg.put] at e
def sPut (t : Tg) (m : EM) : SMm := fun σ st => (m σ st).to σ fun w st1 => match t.put w σ with
  | some σ' => .ok .nx σ' st1
  | none => .no
theorem ss_put {t : Tg} {m : EM} {tg e : Expr} {pos : Pos} (ht : SG K cl X t tg) (h : SE K cl X Wx m e) (hs : swapsWithSole [tg] e pos.line X.env = pure false) (hw : swappedStores [tg] e X.env = pure none)
    (h1 : (assignEach [tg] X.env).map (·.2) = [PySem.assign tg X.env]) : SS K cl X Wx (sPut t m) (.Assign [tg] e pos) := by
  refine ⟨fun E0 ρ G σ st τ H D R S q => TS'.of (ps_asg T.pe TGc.pg hs hw h1) ?_⟩
  refine h.run E0 ρ G σ st τ H _ R S (AftS.seq S q fun w st1 ρ1 G1 H1 v e1 p1 s1 R1 u1 h1 => ?_)
  split at h1
  · rename_i σ' e
    exact ht.run ρ1 G1 H1 w v σ σ' τ _ R1.sub (S.mono p1 s1) u1 e fun τ' S' _ => AftS.nx h1 R1 S'
  · exact h1.elim
def sPar (i j : Nat) (a : AM) : SMm := fun σ st => (a σ st).to σ fun ws st1 => match ws with
  | [v, w] => .ok .nx ((σ.set i (some v)).set j (some w)) st1
  | _ => .no
def sPar3 (i j l : Nat) (a : AM) : SMm := fun σ st => (a σ st).to σ fun ws st1 => match ws with
  | [u, v, w] => .ok .nx (((σ.set i (some u)).set j (some v)).set l (some w)) st1
  | _ => .no
def whileF (c : TM) (b : SMm) : Nat → Sg → List Cell → SR
  | 0, _, _ => .no
  | n + 1, σ, st => (c σ st).to σ fun k st1 => if k = true then (match b σ st1 with
    | .ok .nx σ2 st2 => whileF c b n σ2 st2
    | .ok .ct σ2 st2 => whileF c b n σ2 st2
    | .ok .bk σ2 st2 => .ok .nx σ2 st2
    | r => r) else .ok .nx σ st1
def sWhile (n : Nat) (c : TM) (b : SMm) : SMm := fun σ st => whileF c b n σ st
end
end Y
namespace Y
open PySem PySem.Spec PyProof.Rows L2
theorem TIc.pi {X : Cx} {tg e : Expr} : PI X tg e (TIc X tg e) := ⟨fun pins s σ H R I h => h pins s I⟩
section
variable {K : PySem.W.Frag} {cl : Cls} {X : Cx} {Wx : WX} {E0 : En} {ρ ρ' : List Addr} {G G' : Hp} {σ : Sg} {τ : L2.St} {st : List Cell} {H : Hp} {D : Ends}
def forF (src : Src) (t : Tg) (b : SMm) : Nat → Nat → Sg → List Cell → SR
  | 0, _, _, _ => .no
  | n + 1, i, σ, st => match src.get st i with
    | none => .no
    | some none => .ok .nx σ st
    | some (some w) => match t.put w σ with
      | none => .no
      | some σ1 => match b σ1 st with
        | .ok .nx σ2 st2 => forF src t b n (i + 1) σ2 st2
        | .ok .ct σ2 st2 => forF src t b n (i + 1) σ2 st2
        | .ok .bk σ2 st2 => .ok .nx σ2 st2
        | r => r
def sFor (m : IM) (t : Tg) (b : SMm) : SMm := fun σ st => (m σ st).to σ fun src st1 => forF src t b (src.n + 1) 0 σ st1
theorem ss_for {m : IM} {t : Tg} {b : SMm} {tg iter : Expr} {body : List Stmt} {pos : Pos} (hp : PassesOwn (model X.prog X.w) X.A X.env X.xe) (g : GX K X) (hi : SI K cl X Wx tg m iter) (ht : SG K cl X t tg) (hb : SSs K cl X Wx b body)
    (hs : ∀ x, foldedSetIterable iter X.env x = pure x := by intro _; rfl) : SS K cl X Wx (sFor m t b) (.For tg iter body [] pos) := by
  refine ⟨fun E0 ρ G σ st τ H D R S q => TS'.of (ps_for hp g.hc TIc.pi TGc.pg TSs'.pss hs) ?_⟩
  refine hi.run E0 ρ G σ st τ H _ R S (AftS.seq S q fun src st1 ρ1 G1 H1 J e1 p1 s1 R1 wok h1 => ?_)
  refine ⟨fun i k τ' H' => ∃ ρ' G' σ' st', ρ1 <+: ρ' ∧ Sub G1 G' ∧ (bs K cl E0).Rel ρ' G' st' H' ∧ RS K cl ρ' G' σ' τ' ∧ AftS (bs K cl E0) ρ' G' (forF src t b k i σ' st') D Wx, ⟨src.n + 1, ρ1, G1, σ, st1, List.prefix_refl _, Sub.refl _, R1, S.mono p1 s1, h1⟩, ?_⟩
  rintro i k τ2 H2 ⟨ρ2, G2, σ2, st2, p2, s2, R2, S2, q2⟩
  cases k with
  | zero => exact q2.elim
  | succ k =>
    have w2 := wok E0 ρ2 G2 st2 H2 i p2 s2 R2
    unfold forF at q2
    cases eg : src.get st2 i with
    | none => rw [eg] at q2; exact q2.elim
    | some ow =>
      rw [eg] at q2 w2
      cases ow with
      | none => exact .inl ⟨w2, AftS.nx q2 R2 S2⟩
      | some w =>
        dsimp only at q2 w2
        refine .inr ⟨w2.1, fun τ' H' => ∃ ρ' G' σ' st', ρ1 <+: ρ' ∧ Sub G1 G' ∧ (bs K cl E0).Rel ρ' G' st' H' ∧ RS K cl ρ' G' σ' τ' ∧ AftS (bs K cl E0) ρ' G' (forF src t b k (i + 1) σ' st') D Wx, fun τ' H' z => ⟨k, Nat.lt_succ_self k, z⟩, fun x H3 y => ?_⟩
        obtain ⟨G3, s3, R3, r3⟩ := w2.2 x H3 y
        cases ep : t.put w σ2 with
        | none => rw [ep] at q2; exact q2.elim
        | some σ3 =>
          rw [ep] at q2
          dsimp only at q2
          refine ht.run ρ2 G3 H3 w x σ2 σ3 τ2 _ R3.sub (S2.mono (List.prefix_refl _) s3) r3 ep fun τ3 S3 _ => ?_
          refine hb.run E0 ρ2 G3 σ3 st2 τ3 H3 _ R3 S3 ?_
          cases er : b σ3 st2 with
          | no => rw [er] at q2; exact q2.elim
          | exc x σ4 st4 => rw [er] at q2; exact AftS.mono (List.prefix_refl _) s3 q2
          | ok f σ4 st4 =>
            rw [er] at q2
            cases f with
            | nx => exact fun ρ4 G4 H4 τ4 p4 s4 R4 S4 => ⟨ρ4, G4, σ4, st4, p2.trans p4, s2.trans (s3.trans s4), R4, S4, AftS.mono p4 (s3.trans s4) q2⟩
            | ct => exact fun ρ4 G4 H4 τ4 p4 s4 R4 S4 => ⟨ρ4, G4, σ4, st4, p2.trans p4, s2.trans (s3.trans s4), R4, S4, AftS.mono p4 (s3.trans s4) q2⟩
            | bk => exact fun ρ4 G4 H4 τ4 p4 s4 R4 S4 => q2 ρ4 G4 H4 τ4 p4 (s3.trans s4) R4 S4
            | rt w => exact AftS.mono (List.prefix_refl _) s3 q2
def lcF (src : Src) (t : Tg) (c : TM) (e : EM) (σ0 : Sg) : Nat → Nat → List Cell → Res (List W)
  | 0, _, _ => .no
  | n + 1, i, st => match src.get st i with
    | none => .no
    | some none => .ok [] st
    | some (some w) => match t.put w σ0 with
      | none => .no
      | some σ1 => (c σ1 st).nox.bind fun k st1 => if k = true then (e σ1 st1).nox.bind fun w st2 => (lcF src t c e σ0 n (i + 1) st2).bind fun ws st3 => .ok (w :: ws) st3 else lcF src t c e σ0 n (i + 1) st1
def mYes : TM := fun _ st => .ok true st
def finP (ws : List W) (st : List Cell) : Res W := match pures ws with
  | some l => .ok (.p (.lst l)) st
  | none => .no
def finC (ws : List W) (st : List Cell) : Res W := .ok (.r st.length) (st ++ [.lst ws])
def mLc (m : IM) (t : Tg) (vs : List Nat) (c : TM) (e : EM) (fin : List W → List Cell → Res W) : EM := fun σ st => (m σ st).bind fun src st1 =>
  if src.n ≤ LIM then (lcF src t c e (wipeS σ vs) (src.n + 1) 0 st1).bind fin else .no
theorem sts_nil : STs K cl X Wx mYes [] := ⟨fun E0 ρ G σ st τ H Q R S h => TTs'.of pts_nil (h.here (b := true) R rfl)⟩
theorem Aft.seqH {E1 : En} {α β γ δ : Type} {U : List Addr → Hp → α → β → Prop} {U2 : List Addr → Hp → γ → δ → Prop} {Z Z' : ZX} {R : Res α} {k : α → List Cell → Res γ} {Q : δ → Hp → Prop} {Q' : β → Hp → Prop} (h : Aft (bs K cl E0) U2 ρ G (R.nox.bind k) Q Z)
    (g : ∀ a st ρ' G' H' b, R = .ok a st → ρ <+: ρ' → Sub G G' → (bs K cl E1).Rel ρ' G' st H' → U ρ' G' a b → Aft (bs K cl E0) U2 ρ' G' (k a st) Q Z → Q' b H') : Aft (bs K cl E1) U ρ G R Q' Z' := by
  cases R with
  | ok a st => exact fun ρ2 G2 H2 b p s r u => g a st ρ2 G2 H2 b rfl p s r u (Aft.mono p s h)
  | exc x st => exact h.elim
  | no => exact h.elim
theorem Res.bind_bind {α β γ : Type} (r : Res α) (f : α → List Cell → Res β) (g : β → List Cell → Res γ) : (r.bind f).bind g = r.bind fun a st => (f a st).bind g := by cases r <;> rfl
theorem Res.bind_ok {α β : Type} (a : α) (st : List Cell) (f : α → List Cell → Res β) : (Res.ok a st).bind f = f a st := rfl
theorem lc_turn {Dd : Addr} {acc : List W} {Gh : Hp} {vl : List V} {c : TM} {e : EM} {σ1 : Sg} {k : List W → List Cell → Res W} {Q : VK} {Z : ZX} {rest : List Cell → Res (List W)} {ifs : List Expr} {elt : Expr} {Nx : Hp → Prop} {J : Type} {Y1 : J → Cx}
    (hd : Hd K cl E0 Dd ρ G st H acc Gh vl) (S : RS K cl ρ G σ1 τ) (hc : ∀ j, STs K cl (Y1 j) WF c ifs) (he : ∀ j, SE K cl (Y1 j) WF e elt) (hacc : acc.length < sizeLine)
    (q : Aft (bs K cl E0) (bs K cl E0).RW ρ G (((c σ1 st).nox.bind fun b st1 => if b = true then (e σ1 st1).nox.bind fun w st2 => (rest st2).bind fun ws st3 => .ok (w :: ws) st3 else rest st1).bind k) Q Z)
    (nx1 : ∀ ρ' G' st' H' Gh' vl' w, ρ <+: ρ' → Sub G G' → Hd K cl E0 Dd ρ' G' st' H' (acc ++ [w]) Gh' vl' → Aft (bs K cl E0) (bs K cl E0).RW ρ' G' ((rest st').bind fun ws st3 => k (w :: ws) st3) Q Z → Nx H')
    (nx0 : ∀ ρ' G' st' H' Gh' vl', ρ <+: ρ' → Sub G G' → Hd K cl E0 Dd ρ' G' st' H' acc Gh' vl' → Aft (bs K cl E0) (bs K cl E0).RW ρ' G' ((rest st').bind k) Q Z → Nx H') :
    (fun σ H Q => ∀ j, TTs' (Y1 j) ifs σ H Q : TT) τ H fun b H3 => if b = true then (fun σ H Q => ∀ j, T (Y1 j) elt σ H Q : TE) τ H3 fun y H4 => ∃ acc, H4 Dd = some (.lst acc) ∧ acc.length < sizeLine ∧ Nx (upd H4 Dd (.lst (acc ++ [y]))) else Nx H3 := by
  intro j
  rw [Res.bind_bind] at q
  refine (hc j).run _ ρ G σ1 st τ H _ hd.R S (Aft.seqH q fun b st1 ρ1 G1 H1 b' e1 p1 s1 R1 u1 q1 => ?_)
  obtain rfl : b = b' := u1
  have hd1 := hd.next p1 s1 R1
  cases b with
  | false => exact nx0 ρ1 G1 st1 H1 _ _ p1 s1 hd1 q1
  | true =>
    intro j
    simp only [if_true] at q1
    rw [Res.bind_bind] at q1
    refine (he j).run _ ρ1 G1 σ1 st1 τ H1 _ hd1.R (S.mono p1 s1) (Aft.seqH q1 fun w st2 ρ2 G2 H2 y e2 p2 s2 R2 u2 q2 => ?_)
    have hd2 := hd1.next p2 s2 R2
    refine ⟨vl, hd2.held.1, by rw [← hd2.rw.length]; exact hacc, ?_⟩
    refine nx1 ρ2 G2 st2 _ _ _ w (p1.trans p2) (s1.trans s2) (hd2.push u2) ?_
    rw [Res.bind_bind] at q2
    exact q2
def FinOk (K : PySem.W.Frag) (cl : Cls) (fin : List W → List Cell → Res W) : Prop :=
  ∀ E0 Dd ρ G st H acc Gh vl Q Z, Hd K cl E0 Dd ρ G st H acc Gh vl → Aft (bs K cl E0) (bs K cl E0).RW ρ G (fin acc st) Q Z → Q (.ref Dd) H
theorem finP_ok : FinOk K cl finP := by
  intro E0 Dd ρ G st H acc Gh vl Q Z hd q
  unfold finP at q
  split at q
  · rename_i l e
    obtain ⟨h1, h2, h3⟩ := hd.held
    exact q ρ (upd G Dd (.lst vl)) H (.ref Dd) (List.prefix_refl _) (Sub.new h2) (Rel.adopt hd.back h1 h2 h3 hd.h0) (.lst upd_same ((hd.rw.pures e).mono (Sub.new h2)))
  · exact q.elim
theorem lim_sz {n : Nat} (h : n ≤ LIM) : n < sizeLine := by rw [sizeLine_eq]; unfold LIM at h; omega
abbrev BJ := Shared × Hp × Addr × List (Str × Addr) × List Addr
abbrev Xb (X : Cx) (scope : Scope) (j : BJ) : Cx := X.blk j.1 j.2.1 scope (compEnvC scope j.2.2.2.1 j.2.2.1 X.env) j.2.2.2.2
theorem GX.blk (g : GX K X) {scope : Scope} {j : BJ} : GX K (Xb X scope j) := ⟨g.hK, g.hc, g.hN, g.hu, g.hh⟩
theorem lc_sound {m : IM} {t : Tg} {vs : List Nat} {c : TM} {e : EM} {fin : List W → List Cell → Res W} {tg iter elt : Expr} {ifs : List Expr} {Y1 : BJ → Cx} {Q : VK} (hf : FinOk K cl fin)
    (hi : SI K cl X Wx tg m iter) (ht : ∀ j, SG K cl (Y1 j) t tg) (hv : ∀ i ∈ t.slots, i ∈ vs) (hc : ∀ j, STs K cl (Y1 j) WF c ifs) (he : ∀ j, SE K cl (Y1 j) WF e elt)
    (R : (bs K cl E0).Rel ρ G st H) (S : RS K cl ρ G σ τ) (h : Aft (bs K cl E0) (bs K cl E0).RW ρ G (mLc m t vs c e fin σ st) Q (fun c d H' => Wx c d τ H')) :
    tLc (TIc X tg iter) (fun v σ H Q => ∀ j, TGc (Y1 j) tg v σ H Q) (fun σ H Q => ∀ j, TTs' (Y1 j) ifs σ H Q) (fun σ H Q => ∀ j, T (Y1 j) elt σ H Q) vs τ H Q := by
  refine hi.run E0 ρ G σ st τ H _ R S (Aft.seq h fun src st1 ρ1 G1 H1 J e1 p1 s1 R1 wok h1 => ?_)
  intro Dd hD
  split at h1
  case isFalse => exact h1.elim
  rename_i hn
  refine ⟨fun i k H' => ∃ ρ' G' st' acc Gh vl, ρ1 <+: ρ' ∧ Sub G1 G' ∧ Hd K cl E0 Dd ρ' G' st' H' acc Gh vl ∧ acc.length ≤ i ∧ i + k ≤ src.n + 1 ∧
    Aft (bs K cl E0) (bs K cl E0).RW ρ' G' ((lcF src t c e (wipeS σ vs) k i st').bind fun ws st3 => fin (acc ++ ws) st3) Q (fun c d H' => Wx c d τ H'), ⟨src.n + 1, ρ1, G1, st1, [], G1, [], List.prefix_refl _, Sub.refl _, Hd.start R1 hD, Nat.le_refl _, by omega, h1⟩, ?_⟩
  rintro i k H2 ⟨ρ2, G2, st2, acc, Gh, vl, p2, s2, hd, ha, hk, q2⟩
  cases k with
  | zero => exact q2.elim
  | succ k =>
    have w2 := wok _ ρ2 G2 st2 H2 i p2 s2 hd.R
    unfold lcF at q2
    cases eg : src.get st2 i with
    | none => rw [eg] at q2; exact q2.elim
    | some ow =>
      rw [eg] at q2 w2
      cases ow with
      | none =>
        refine .inl ⟨w2, ?_⟩
        have q2 : Aft (bs K cl E0) (bs K cl E0).RW ρ2 G2 (fin (acc ++ []) st2) Q (fun c d H' => Wx c d τ H') := q2
        rw [List.append_nil] at q2
        exact hf _ _ _ _ _ _ _ _ _ _ _ hd q2
      | some w =>
        dsimp only at q2 w2
        refine .inr ⟨w2.1, fun H' => ∃ ρ' G' st' acc Gh vl, ρ1 <+: ρ' ∧ Sub G1 G' ∧ Hd K cl E0 Dd ρ' G' st' H' acc Gh vl ∧ acc.length ≤ i + 1 ∧ i + 1 + k ≤ src.n + 1 ∧
          Aft (bs K cl E0) (bs K cl E0).RW ρ' G' ((lcF src t c e (wipeS σ vs) k (i + 1) st').bind fun ws st3 => fin (acc ++ ws) st3) Q (fun c d H' => Wx c d τ H'), fun H' z => ⟨k, Nat.lt_succ_self k, z⟩, fun x H3 y => ?_⟩
        obtain ⟨G3, s3, R3, r3⟩ := w2.2 x H3 y
        have hd3 := hd.next (List.prefix_refl _) s3 R3
        cases ep : t.put w (wipeS σ vs) with
        | none => rw [ep] at q2; exact q2.elim
        | some σ3 =>
          rw [ep] at q2
          dsimp only at q2
          intro j
          refine (ht j).run ρ2 G3 H3 w x (wipeS σ vs) σ3 _ _ R3.sub ((S.mono (p1.trans p2) (s1.trans (s2.trans s3))).wipe vs) r3 ep fun τ3 S3 w3 => ⟨(w3 vs hv).trans wipe_wipe, ?_⟩
          refine lc_turn (rest := fun st1 => lcF src t c e (wipeS σ vs) k (i + 1) st1) (Q := Q) hd3 S3 hc he (lim_sz (by omega)) (Aft.mono (List.prefix_refl _) s3 q2) (fun ρ4 G4 st4 H4 Gh4 vl4 w4 p4 s4 hd4 q4 => ?_) (fun ρ4 G4 st4 H4 Gh4 vl4 p4 s4 hd4 q4 => ?_)
          · refine ⟨ρ4, G4, st4, acc ++ [w4], Gh4, vl4, p2.trans p4, s2.trans (s3.trans s4), hd4, by rw [List.length_append]; simp; exact ha, by omega, ?_⟩
            simp only [List.append_assoc, List.singleton_append]
            exact q4
          · exact ⟨ρ4, G4, st4, acc, Gh4, vl4, p2.trans p4, s2.trans (s3.trans s4), hd4, by omega, by omega, q4⟩
theorem se_lc {m : IM} {t : Tg} {vs : List Nat} {c : TM} {e : EM} {fin : List W → List Cell → Res W} {tg iter elt : Expr} {ifs : List Expr} {scope : Scope} {own : List (Str × Nat)} {pos : Pos} (g : GX K X) (hf : FinOk K cl fin)
    (ok : blkC X.N X.env.scope scope own = true) (hvs : own.map (·.2) = vs) (hi : SI K cl X Wx tg m iter) (hv : t.slots.all (fun i => decide (i ∈ vs)) = true) (ht : ∀ j, SG K cl (Xb X scope j) t tg) (hc : ∀ j, STs K cl (Xb X scope j) WF c ifs) (he : ∀ j, SE K cl (Xb X scope j) WF e elt)
    (hs : ∀ x, foldedSetIterable iter X.env x = pure x := by intro _; rfl) : SE K cl X Wx (mLc m t vs c e fin) (.ListComp elt [⟨tg, iter, ifs, 0⟩] scope pos) := by
  subst hvs
  refine ⟨fun E0 ρ G σ st τ H Q R S h => T.of (pe_lc (g := fun v σ H Q => ∀ j, TGc (Xb X scope j) tg v σ H Q) (tt := fun σ H Q => ∀ j, TTs' (Xb X scope j) ifs σ H Q) (te := fun σ H Q => ∀ j, T (Xb X scope j) elt σ H Q) g.hc g.hN TIc.pi (blkOk_by ok)
    (fun s H C cl fp => ⟨fun pins s' σ H' v u Q I r h => h (s, H, C, cl, fp) pins s' u I r⟩) (fun s H C cl fp => ⟨fun pins s' σ H' Q I h => h (s, H, C, cl, fp) pins s' I⟩) (fun s H C cl fp => ⟨fun pins s' σ H' Q I h => h (s, H, C, cl, fp) pins s' I⟩) hs) ?_⟩
  exact lc_sound hf hi ht (fun i hm => by simpa using List.all_eq_true.mp hv i hm) hc he R S h
def lc2F (src : Src) (t : Tg) (c : TM) (m1 : IM) (t1 : Tg) (vs1 : List Nat) (c1 : TM) (e : EM) (σ0 : Sg) : Nat → Nat → List Cell → Res (List W)
  | 0, _, _ => .no
  | n + 1, i, st => match src.get st i with
    | none => .no
    | some none => .ok [] st
    | some (some w) => match t.put w σ0 with
      | none => .no
      | some σ1 => (c σ1 st).nox.bind fun k st1 => if k = true then (m1 σ1 st1).nox.bind fun src1 st2 => if src1.n < 1000 then (lcF src1 t1 c1 e (wipeS σ1 vs1) (src1.n + 1) 0 st2).bind fun ws st3 => (lc2F src t c m1 t1 vs1 c1 e σ0 n (i + 1) st3).bind fun ws' st4 => .ok (ws ++ ws') st4 else .no
        else lc2F src t c m1 t1 vs1 c1 e σ0 n (i + 1) st1
def mLc2 (m : IM) (t : Tg) (vs : List Nat) (c : TM) (m1 : IM) (t1 : Tg) (vs1 : List Nat) (c1 : TM) (e : EM) (fin : List W → List Cell → Res W) : EM := fun σ st => (m σ st).bind fun src st1 =>
  if src.n < 1000 then (lc2F src t c m1 t1 vs1 c1 e (wipeS σ vs) (src.n + 1) 0 st1).bind fin else .no
end
end Y
namespace Y
open PySem PySem.Spec PyProof.Rows L2
section
variable {K : PySem.W.Frag} {cl : Cls} {X : Cx} {Wx : WX} {E0 : En} {ρ ρ' : List Addr} {G G' : Hp} {σ : Sg} {τ : L2.St} {st : List Cell} {H : Hp} {D : Ends}
def srcL (l : List W) : Src := ⟨fun _ i => some l[i]?, l.length⟩
def chars (s : Str) : List W := s.cps.toList.map fun c => .p (.str ⟨#[c]⟩)
def srcC (j n : Nat) : Src := ⟨fun st i => match st[j]? with
  | some (.lst l) => some l[i]?
  | _ => none, n⟩
def vSrc (st : List Cell) : W → Option Src
  | .p (.lst l) => some (srcL (l.map .p))
  | .p (.tup l) => some (srcL (l.map .p))
  | .p (.str s) => some (srcL (chars s))
  | .r j => match st[j]? with
    | some (.lst l) => some (srcC j l.length)
    | _ => none
  | _ => none
def mSrc (m : EM) : IM := fun σ st => (m σ st).bind fun w st1 => match vSrc st1 w with
  | some s => .ok s st1
  | none => .no
theorem map_get {l : List P} {i : Nat} : (l.map W.p)[i]? = l[i]?.map W.p := List.getElem?_map ..
theorem wok_lst {a : Addr} {l : List P} (r : RP K cl G (.lst l) (.ref a)) : WOk K cl ρ G (Itl K a) (srcL (l.map .p)) := by
  intro E0 ρ' G' st H i p s R
  cases r with
  | lst h q =>
    rename_i vs
    have hq : SqL K H a vs := .inl (.inl (R.sub _ _ (s _ _ h)))
    have hl := q.length
    show match some (l.map W.p)[i]? with | none => True | some none => _ | some (some w) => _
    rw [map_get]
    cases e : l[i]? with
    | none => exact ⟨vs, hq, by rw [← hl]; exact List.getElem?_eq_none_iff.mp e⟩
    | some x =>
      obtain ⟨v, ev, rv⟩ := q.get e
      refine ⟨⟨vs, v, hq, ev⟩, fun y H' yl => ?_⟩
      obtain ⟨rfl, yl⟩ := yl
      have : y = v := Option.some.inj ((yl vs hq).symm.trans ev)
      subst this
      exact ⟨G', Sub.refl _, R, rv.mono s⟩
theorem wok_tup {a : Addr} {l : List P} (r : RP K cl G (.tup l) (.ref a)) : WOk K cl ρ G (Itt K a) (srcL (l.map .p)) := by
  intro E0 ρ' G' st H i p s R
  cases r with
  | tup h q =>
    rename_i vs
    have hq : SqT K H a vs := R.sub.sqT (s.sqT h)
    have hl := q.length
    show match some (l.map W.p)[i]? with | none => True | some none => _ | some (some w) => _
    rw [map_get]
    cases e : l[i]? with
    | none => exact ⟨vs, hq, by rw [← hl]; exact List.getElem?_eq_none_iff.mp e⟩
    | some x =>
      obtain ⟨v, ev, rv⟩ := q.get e
      refine ⟨⟨vs, v, hq, ev⟩, fun y H' yl => ?_⟩
      obtain ⟨rfl, yl⟩ := yl
      have : y = v := Option.some.inj ((yl vs hq).symm.trans ev)
      subst this
      exact ⟨G', Sub.refl _, R, rv.mono s⟩
theorem chars_get {z : Str} {i : Nat} : (chars z)[i]? = z.cps[i]?.map fun c => W.p (.str ⟨#[c]⟩) := by
  unfold chars
  rw [List.getElem?_map, Array.getElem?_toList]
theorem wok_str {z : Str} : WOk K cl ρ G (Its z) (srcL (chars z)) := by
  intro E0 ρ' G' st H i p s R
  show match some (chars z)[i]? with | none => True | some none => _ | some (some w) => _
  rw [chars_get]
  cases e : z.cps[i]? with
  | none => exact Array.getElem?_eq_none_iff.mp e
  | some c =>
    refine ⟨(Array.getElem?_eq_some_iff.mp e).1, fun y H' yl => ?_⟩
    obtain ⟨rfl, c', e', rfl⟩ := yl
    rw [e] at e'; cases e'
    exact ⟨G', Sub.refl _, R, RP.str _⟩
theorem wok_cell {a : Addr} {j n : Nat} (h : ρ[j]? = some a) : WOk K cl ρ G (Itl K a) (srcC j n) := by
  intro E0 ρ' G' st H i p s R
  show match (match st[j]? with | some (.lst l) => some l[i]? | _ => none) with | none => True | some none => _ | some (some w) => _
  split
  · trivial
  · rename_i e
    split at e
    · rename_i l el
      obtain ⟨b, hb, ⟨vs, h1, h2⟩, _⟩ := R.at el
      have hb : ρ'[j]? = some b := hb
      obtain ⟨t, rfl⟩ := p
      rw [List.getElem?_append_left (List.getElem?_eq_some_iff.mp h).1, h] at hb
      cases hb
      exact ⟨vs, .inl (.inl h1), by rw [← h2.length]; exact List.getElem?_eq_none_iff.mp (Option.some.inj e)⟩
    · cases e
  · rename_i w e
    split at e
    · rename_i l el
      obtain ⟨b, hb, ⟨vs, h1, h2⟩, _⟩ := R.at el
      have hb : ρ'[j]? = some b := hb
      obtain ⟨t, rfl⟩ := p
      rw [List.getElem?_append_left (List.getElem?_eq_some_iff.mp h).1, h] at hb
      cases hb
      obtain ⟨v, ev, rv⟩ := h2.get (Option.some.inj e)
      refine ⟨⟨vs, v, .inl (.inl h1), ev⟩, fun y H' yl => ?_⟩
      obtain ⟨rfl, yl⟩ := yl
      have : y = v := Option.some.inj ((yl vs (.inl (.inl h1))).symm.trans ev)
      subst this
      exact ⟨G', Sub.refl _, R, rv⟩
    · cases e
theorem it_list {pins : List (Addr × Obj)} {s : Shared} {tg : Expr} {a : Addr} {xs : List V} {R : It → Hp → Prop} (I : Inv X pins τ H s) (h : SqL X.K H a xs) (q : R (Itl X.K a) H) : wpAny (model X.prog X.w) X.A (pyIter (.ref a)) (PIE X pins τ tg R) X.xe s := by
  obtain ⟨its, rv, p, hz⟩ := I.list h
  exact wpAny_pyIter_list p.isList (pi_one (tk := s.toks) I _ (turn_list a _) ⟨_, Heap.get?_push_size _ rfl, rfl, rfl⟩ q)
theorem it_tup {pins : List (Addr × Obj)} {s : Shared} {tg : Expr} {a : Addr} {xs : List V} {R : It → Hp → Prop} (I : Inv X pins τ H s) (h : SqT X.K H a xs) (q : R (Itt X.K a) H) : wpAny (model X.prog X.w) X.A (pyIter (.ref a)) (PIE X pins τ tg R) X.xe s := by
  obtain ⟨its, rv, p, hz⟩ := I.tuple h
  exact wpAny_pyIter_tuple (show s.heap.IsTuple a its.toArray from p) (pi_one (tk := s.toks) I _ (turn_tuple a _) ⟨_, Heap.get?_push_size _ rfl, rfl, rfl⟩ q)
theorem it_str {pins : List (Addr × Obj)} {s : Shared} {tg : Expr} {x : Str} {t : Tok} {R : It → Hp → Prop} (I : Inv X pins τ H s) (q : R (Its x) H) : wpAny (model X.prog X.w) X.A (pyIter (.str x t)) (PIE X pins τ tg R) X.xe s := by
  cases ha : x.cps.all (· < 128)
  · exact wpAny_pyIter_wide ha (pi_one (tk := s.toks) I _ (turn_str _ x t "str_iterator" (.inr rfl)) ⟨_, Heap.get?_push_size _ rfl, rfl, rfl⟩ q)
  · exact wpAny_pyIter_ascii ha (pi_one (tk := s.toks) I _ (turn_str _ x t "str_ascii_iterator" (.inl rfl)) ⟨_, Heap.get?_push_size _ rfl, rfl, rfl⟩ q)
theorem si_of {m : EM} {tg e : Expr} (g : GX K X) (h : SE K cl X Wx m e) : SI K cl X Wx tg (mSrc m) e := by
  obtain ⟨hK, _⟩ := g
  subst hK
  refine ⟨fun E0 ρ G σ st τ H R Rl S q => ?_⟩
  have t := h.run E0 ρ G σ st τ H (fun x H1 => (∃ a xs, x = .ref a ∧ SqL X.K H1 a xs ∧ R (Itl X.K a) H1) ∨ (∃ a xs, x = .ref a ∧ SqT X.K H1 a xs ∧ R (Itt X.K a) H1) ∨ ∃ z, x = .str z ∧ R (Its z) H1) Rl S
    (Aft.seq q fun w st1 ρ1 G1 H1 v e1 p1 s1 R1 u1 h1 => ?_)
  · intro pins s I
    refine thn (t pins s I) fun v s1 ⟨x, H1, I1, r1, q1⟩ => ?_
    rcases q1 with ⟨a, xs, rfl, hs, q1⟩ | ⟨a, xs, rfl, hs, q1⟩ | ⟨z, rfl, q1⟩
    · cases r1; exact it_list I1 hs q1
    · cases r1; exact it_tup I1 hs q1
    · obtain ⟨t, rfl⟩ := r1; exact it_str I1 q1
  · cases w with
    | p x =>
      cases x with
      | lst l =>
        cases u1 with
        | lst hh qq => exact .inl ⟨_, _, rfl, .inl (.inl (R1.sub _ _ hh)), h1 ρ1 G1 H1 _ (List.prefix_refl _) (Sub.refl _) R1 (wok_lst (.lst hh qq))⟩
      | tup l =>
        cases u1 with
        | tup hh qq => exact .inr (.inl ⟨_, _, rfl, R1.sub.sqT hh, h1 ρ1 G1 H1 _ (List.prefix_refl _) (Sub.refl _) R1 (wok_tup (.tup hh qq))⟩)
      | str z =>
        cases u1
        exact .inr (.inr ⟨_, rfl, h1 ρ1 G1 H1 _ (List.prefix_refl _) (Sub.refl _) R1 wok_str⟩)
      | _ => exact h1.elim
    | r j =>
      obtain ⟨a, ha, rfl⟩ := u1
      simp only [vSrc] at h1
      split at h1
      · rename_i sr er
        split at er
        · rename_i l el
          cases er
          obtain ⟨b, hb, ⟨vs, h2, h3⟩, _⟩ := R1.at el
          cases Option.some.inj (ha.symm.trans hb)
          exact .inl ⟨a, vs, rfl, .inl (.inl h2), h1 ρ1 G1 H1 _ (List.prefix_refl _) (Sub.refl _) R1 (wok_cell ha)⟩
        · cases er
      · exact h1.elim
def rngL (lo : Int) (n : Nat) : List W := (List.range n).map fun (i : Nat) => .p (.int (lo + (i : Nat)))
theorem wok_rng {lo : Int} {n : Nat} : WOk K cl ρ G (Itr lo n) (srcL (rngL lo n)) := by
  intro E0 ρ' G' st H i p s R
  show match some (rngL lo n)[i]? with | none => True | some none => _ | some (some w) => _
  unfold rngL
  rw [List.getElem?_map]
  by_cases h : i < n
  · rw [List.getElem?_range h]
    refine ⟨h, fun y H' yl => ?_⟩
    obtain ⟨rfl, rfl⟩ := yl
    exact ⟨G', Sub.refl _, R, RP.int _⟩
  · rw [List.getElem?_eq_none (by simpa using Nat.not_lt.mp h)]
    exact Nat.not_lt.mp h
def mRng1 (a : EM) : IM := fun σ st => (a σ st).bind fun w st1 => match w with
  | .p (.int j) => if j ≤ LIM ∧ -(LIM : Int) ≤ j then .ok (srcL (rngL 0 j.toNat)) st1 else .no
  | _ => .no
theorem T.pa1 {e : Expr} (hs : starEach [e] X.env = (false, eval e X.env) :: starEach [] X.env) : PA X [e] (tCons (T X e) tNil) := pa_cons T.pe pa_nil hs
theorem si_rng1 {a : EM} {e tg : Expr} {p pos : Pos} (hg : Gl X "range") (hm : X.mg "range" = none) (ha : SE K cl X Wx a e) (hs : starEach [e] X.env = (false, eval e X.env) :: starEach [] X.env := by rfl) : SI K cl X Wx tg (mRng1 a) (.Call (.Name "range" p) [e] [] pos) := by
  refine ⟨fun E0 ρ G σ st τ H R Rl S q => TIc.of (pi_range1 hg hm (T.pa1 hs) hs) ?_⟩
  refine ha.run E0 ρ G σ st τ H _ Rl S (Aft.seq q fun w st1 ρ1 G1 H1 v e1 p1 s1 R1 u1 h1 => ?_)
  have hlim : ((LIM : Nat) : Int) = 1000000 := rfl
  split at h1
  · rename_i j
    split at h1
    · rename_i hj
      cases u1
      exact ⟨j, rfl, by omega, by omega, h1 ρ1 G1 H1 _ (List.prefix_refl _) (Sub.refl _) R1 wok_rng⟩
    · exact h1.elim
  · exact h1.elim
def mRng2 (a b : EM) : IM := fun σ st => (a σ st).bind fun w st1 => (b σ st1).bind fun u st2 => match w, u with
  | .p (.int i), .p (.int j) => if (j ≤ LIM ∧ -(LIM : Int) ≤ j) ∧ i ≤ LIM ∧ -(LIM : Int) ≤ i then .ok (srcL (rngL i (j - i).toNat)) st2 else .no
  | _, _ => .no
def enmL : Nat → List P → List W
  | _, [] => []
  | i, x :: l => .p (.tup [.int (i : Nat), x]) :: enmL (i + 1) l
theorem enmL_get : ∀ {l : List P} {i k : Nat}, (enmL k l)[i]? = l[i]?.map fun x => W.p (.tup [.int ((k + i : Nat) : Int), x])
  | [], _, _ => rfl
  | x :: l, 0, k => rfl
  | x :: l, i + 1, k => by
    show (enmL (k + 1) l)[i]? = _
    rw [enmL_get]
    have : k + 1 + i = k + (i + 1) := by omega
    rw [this]; rfl
def srcE (j n : Nat) : Src := ⟨fun st i => match st[j]? with
  | some (.lst l) => match l[i]? with
    | none => some none
    | some (.p x) => some (some (.p (.tup [.int (i : Nat), x])))
    | some (.r _) => none
  | _ => none, n⟩
def vEnm (st : List Cell) : W → Option Src
  | .p (.lst l) => some (srcL (enmL 0 l))
  | .r j => match st[j]? with
    | some (.lst l) => some (srcE j l.length)
    | _ => none
  | _ => none
theorem wok_enm {a : Addr} {l : List P} (r : RP K cl G (.lst l) (.ref a)) : WOk K cl ρ G (Ite K a) (srcL (enmL 0 l)) := by
  intro E0 ρ' G' st H i p s R
  cases r with
  | lst h q =>
    rename_i vs
    have hq : SqL K H a vs := .inl (.inl (R.sub _ _ (s _ _ h)))
    have hl := q.length
    show match some (enmL 0 l)[i]? with | none => True | some none => _ | some (some w) => _
    rw [enmL_get]
    cases e : l[i]? with
    | none => exact ⟨vs, hq, by rw [← hl]; exact List.getElem?_eq_none_iff.mp e⟩
    | some x =>
      obtain ⟨v, ev, rv⟩ := q.get e
      refine ⟨⟨vs, v, hq, ev⟩, fun y H' yl => ?_⟩
      obtain ⟨T, v', rfl, hT, rfl, yl⟩ := yl
      have : v' = v := Option.some.inj ((yl vs hq).symm.trans ev)
      subst this
      have sn := Sub.new (o := .tup [.int (i : Nat), v']) (R.gnone hT)
      refine ⟨_, sn, R.froze hT, ?_⟩
      rw [Nat.zero_add]
      exact RP.tup (.inl (.inl upd_same)) (.cons (.int _) (.cons (rv.mono (s.trans sn)) .nil))
theorem wok_enmC {a : Addr} {j n : Nat} (h : ρ[j]? = some a) : WOk K cl ρ G (Ite K a) (srcE j n) := by
  intro E0 ρ' G' st H i p s R
  have at' : ∀ l, st[j]? = some (.lst l) → ∃ vs, H a = some (.lst vs) ∧ RWs K cl ρ' G' l vs := fun l el => by
    obtain ⟨b, hb, ⟨vs, h1, h2⟩, _⟩ := R.at el
    have hb : ρ'[j]? = some b := hb
    obtain ⟨t, rfl⟩ := p
    rw [List.getElem?_append_left (List.getElem?_eq_some_iff.mp h).1, h] at hb
    cases hb
    exact ⟨vs, h1, h2⟩
  unfold srcE
  dsimp only
  split
  · trivial
  · rename_i e
    split at e
    · rename_i l el
      obtain ⟨vs, h1, h2⟩ := at' l el
      split at e
      · rename_i e2
        exact ⟨vs, .inl (.inl h1), by rw [← h2.length]; exact List.getElem?_eq_none_iff.mp e2⟩
      · cases e
      · cases e
    · cases e
  · rename_i w e
    split at e
    · rename_i l el
      obtain ⟨vs, h1, h2⟩ := at' l el
      split at e
      · cases e
      · rename_i x e2
        cases e
        obtain ⟨v, ev, rv⟩ := h2.get e2
        refine ⟨⟨vs, v, .inl (.inl h1), ev⟩, fun y H' yl => ?_⟩
        obtain ⟨T, v', rfl, hT, rfl, yl⟩ := yl
        have : v' = v := Option.some.inj ((yl vs (.inl (.inl h1))).symm.trans ev)
        subst this
        have sn := Sub.new (o := .tup [.int (i : Nat), v']) (R.gnone hT)
        exact ⟨_, sn, R.froze hT, RP.tup (.inl (.inl upd_same)) (.cons (.int _) (.cons (RP.mono sn rv) .nil))⟩
      · cases e
    · cases e
def zipL : List P → List P → List W
  | x :: l, y :: m => .p (.tup [x, y]) :: zipL l m
  | _, _ => []
theorem zipL_get : ∀ {l m : List P} {i : Nat}, (zipL l m)[i]? = match l[i]?, m[i]? with
    | some x, some y => some (.p (.tup [x, y]))
    | _, _ => none
  | [], m, i => by simp [zipL]
  | x :: l, [], i => by
    simp only [zipL, List.getElem?_nil]
    split
    · rename_i h; cases h
    · rfl
  | x :: l, y :: m, 0 => by simp [zipL]
  | x :: l, y :: m, i + 1 => by
    show (zipL l m)[i]? = _
    rw [zipL_get]
    simp
end
end Y
namespace Y
open PySem PySem.Spec PyProof.Rows L2
def unC (st : List Cell) : W → Option P
  | .p x => some x
  | .r i => match st[i]? with
    | some (.lst l) => match pures l with
      | some m => some (.lst m)
      | none => none
    | _ => none
section
variable {K : PySem.W.Frag} {cl : Cls} {X : Cx} {Wx : WX} {E0 : En} {ρ ρ' : List Addr} {G G' : Hp} {σ : Sg} {τ : L2.St} {st : List Cell} {H : Hp} {D : Ends}
def unD (st : List Cell) (w : W) : Option PyData := (unC st w).bind toD
theorem unD_ok (R : (bs K cl E0).Rel ρ G st H) {w : W} {v : V} {d : PyData} (r : RW K cl ρ G w v) (e : unD st w = some d) : Dp K H v d := by
  cases w with
  | p x => exact RP.dp R.sub r e
  | r i =>
    obtain ⟨a, ha, rfl⟩ := r
    unfold unD unC at e
    dsimp only at e
    split at e
    · rename_i l el
      split at e
      · rename_i m em
        obtain ⟨b, hb, ⟨vs, h2, h3⟩, _⟩ := R.at el
        cases Option.some.inj (ha.symm.trans hb)
        have e : toD (.lst m) = some d := e
        rw [toD] at e
        split at e
        · rename_i ds e2
          cases e
          exact .lst (.inl (.inl h2)) ((h3.pures em).dp R.sub e2)
        · cases e
      · cases e
    · cases e
def eqS : P → P → Option Bool
  | .non, .non => some true
  | .int a, .int b => some (a == b)
  | .bl a, .bl b => some (a == b)
  | .str a, .str b => some (a == b)
  | .non, .int _ => some false
  | .int _, .non => some false
  | .non, .bl _ => some false
  | .bl _, .non => some false
  | .non, .str _ => some false
  | .str _, .non => some false
  | .int _, .str _ => some false
  | .str _, .int _ => some false
  | .bl _, .str _ => some false
  | .str _, .bl _ => some false
  | _, _ => none
theorem eqS_ok {x y : P} {v u : V} {k : Bool} (r : RP K cl G x v) (r2 : RP K cl G y u) (e : eqS x y = some k) : scal v u = true ∧ decide (v = u) = k := by
  cases r <;> cases r2 <;> first
    | (unfold eqS at e; cases e; done)
    | (cases e; exact ⟨rfl, dec_int⟩)
    | (cases e; exact ⟨rfl, dec_bl⟩)
    | (cases e; exact ⟨rfl, dec_str⟩)
    | (cases e; exact ⟨rfl, by simp⟩)
def eqW : W → W → Option Bool
  | .p x, .p y => eqS x y
  | _, _ => none
def vEqB (neg : Bool) (x y : W) (st : List Cell) : Res W := match eqW x y with
  | some k => .ok (.p (.bl (if neg = true then !k else k))) st
  | none => match unD st x, unD st y with
    | some d, some e => if SeqAt.shaped d = true ∧ SeqAt.shaped e = true then .ok (.p (.bl (if neg = true then !PyData.eqv d e else PyData.eqv d e))) st else .no
    | _, _ => .no
theorem eqW_ok {x y : W} {v u : V} {k : Bool} (r : RW K cl ρ G x v) (r2 : RW K cl ρ G y u) (e : eqW x y = some k) : scal v u = true ∧ decide (v = u) = k := by
  cases x with
  | p x =>
    cases y with
    | p y => exact eqS_ok r r2 e
    | r j => cases e
  | r i => cases e
def rEqA (K : PySem.W.Frag) : R2 := fun x y H Q => rEq x y H Q ∨ rEqD K x y H Q
def rNeA (K : PySem.W.Frag) : R2 := fun x y H Q => rNe x y H Q ∨ rNeD K x y H Q
theorem vEq_ok : VOp K cl (vEqB false) (rEqA K) := by
  intro E0 ρ G st H x y v u Q Z R rx ry h
  unfold vEqB at h
  split at h
  · rename_i k ek
    obtain ⟨h1, h2⟩ := eqW_ok rx ry ek
    exact .inl ⟨h1, by rw [h2]; exact h.here R (RP.bl _)⟩
  · split at h
    · rename_i d e hd he
      split at h
      · rename_i hs
        exact .inr ⟨d, e, unD_ok R rx hd, unD_ok R ry he, hs.1, hs.2, h.here R (RP.bl _)⟩
      · exact h.elim
    · exact h.elim
theorem vNe_ok : VOp K cl (vEqB true) (rNeA K) := by
  intro E0 ρ G st H x y v u Q Z R rx ry h
  unfold vEqB at h
  split at h
  · rename_i k ek
    obtain ⟨h1, h2⟩ := eqW_ok rx ry ek
    exact .inl ⟨h1, by rw [h2]; exact h.here R (RP.bl _)⟩
  · split at h
    · rename_i d e hd he
      split at h
      · rename_i hs
        exact .inr ⟨d, e, unD_ok R rx hd, unD_ok R ry he, hs.1, hs.2, h.here R (RP.bl _)⟩
      · exact h.elim
    · exact h.elim
theorem op_eqA (hu : X.A.units + 64 < cLine) : OpR X (compareOp .Eq) (rEqA X.K) := op_eq.or (op_eqD hu)
theorem op_neA (hu : X.A.units + 64 < cLine) : OpR X (compareOp .NotEq) (rNeA X.K) := op_ne.or (op_neD hu)
theorem se_eq {a b : EM} {pa pb : Expr} {pos : Pos} (g : GX K X) (ha : SE K cl X Wx a pa) (hb : SE K cl X Wx b pb) (hm : behindInMarks .Eq pb = false := by rfl) : SE K cl X Wx (mBin (vEqB false) a b) (.Compare pa [.Eq] [pb] pos) := by
  obtain ⟨hK, hc, hN, hu, hh⟩ := g
  subst hK
  exact se_cmp (op_eqA (by omega)) hm vEq_ok ha hb
def flatP : P → Bool
  | .non => true
  | .bl _ => true
  | .int _ => true
  | .str _ => true
  | _ => false
def eqF : P → P → Bool
  | .non, .non => true
  | .bl a, .bl b => a == b
  | .bl a, .int b => (if a then 1 else 0) == b
  | .int a, .bl b => a == (if b then 1 else 0)
  | .int a, .int b => a == b
  | .str a, .str b => a == b
  | _, _ => false
def inP (x : P) (l : List P) : Bool := l.any fun y => eqF y x
theorem RP.flat {x : P} {v : V} (r : RP K cl G x v) (h : flatP x = true) : flatV v = true := by cases r <;> first | rfl | cases h
theorem RP.eqF {x y : P} {v u : V} (r : RP K cl G x v) (r2 : RP K cl G y u) (h : flatP x = true) (h2 : flatP y = true) : eqV v u = Y.eqF x y := by
  cases r <;> first | (cases h; done) | (cases r2 <;> first | (cases h2; done) | rfl)
theorem RPs.flat : ∀ {l : List P} {vs : List V}, RPs K cl G l vs → l.all flatP = true → vs.all flatV = true
  | _, _, .nil, _ => rfl
  | _, _, .cons h r, e => by
    rw [List.all_cons, Bool.and_eq_true] at e ⊢
    exact ⟨h.flat e.1, RPs.flat r e.2⟩
theorem RPs.inV {x : P} {v : V} (h : RP K cl G x v) (hx : flatP x = true) : ∀ {l : List P} {vs : List V}, RPs K cl G l vs → l.all flatP = true → L2.inV v vs = inP x l
  | _, _, .nil, _ => rfl
  | y :: l, u :: vs, .cons q r, e => by
    rw [List.all_cons, Bool.and_eq_true] at e
    have ih := RPs.inV h hx r e.2
    unfold L2.inV inP at ih ⊢
    rw [List.any_cons, List.any_cons, q.eqF h e.1 hx, ih]
def seqP (st : List Cell) (w : W) : Option (List P) := match unC st w with
  | some (.lst l) => some l
  | some (.tup l) => some l
  | _ => none
theorem seqP_ok (R : (bs K cl E0).Rel ρ G st H) {w : W} {v : V} {l : List P} (r : RW K cl ρ G w v) (e : seqP st w = some l) : ∃ a vs, v = .ref a ∧ (SqL K H a vs ∨ SqT K H a vs) ∧ RPs K cl G l vs := by
  unfold seqP unC at e
  cases w with
  | p x =>
    cases x with
    | lst m =>
      cases e
      cases r with
      | lst h q => exact ⟨_, _, rfl, .inl (.inl (.inl (R.sub _ _ h))), q⟩
    | tup m =>
      cases e
      cases r with
      | tup h q => exact ⟨_, _, rfl, .inr (R.sub.sqT h), q⟩
    | _ => cases e
  | r i =>
    obtain ⟨a, ha, rfl⟩ := r
    dsimp only at e
    split at e
    · rename_i m em
      split at em
      · rename_i l' el
        split at em
        · rename_i m' em'
          cases em
          cases e
          obtain ⟨b, hb, ⟨vs, h2, h3⟩, _⟩ := R.at el
          cases Option.some.inj (ha.symm.trans hb)
          exact ⟨a, vs, rfl, .inl (.inl (.inl h2)), h3.pures em'⟩
        · cases em
      · cases em
    · rename_i m em
      split at em
      · split at em
        · cases em
        · cases em
      · cases em
    · cases e
def occ (i j : Str) : Bool := !(Builtin.Str.occurrences j i 0 j.length 1).isEmpty
def vInB (neg : Bool) (x y : W) (st : List Cell) : Res W := match x, y with
  | .p (.str i), .p (.str j) => .ok (.p (.bl (if neg = true then !occ i j else occ i j))) st
  | .p x', y => match seqP st y with
    | some l => if flatP x' = true ∧ l.all flatP = true then .ok (.p (.bl (if neg = true then !inP x' l else inP x' l))) st else
      match toD x', unD st y with
      | some d, some (.list ds) => if SeqAt.shaped d = true ∧ SeqAt.shaped (.list ds) = true then .ok (.p (.bl (if neg = true then !ds.any fun z => PyData.eqv z d else ds.any fun z => PyData.eqv z d))) st else .no
      | _, _ => .no
    | none => .no
  | _, _ => .no
def vIsN (neg : Bool) (x y : W) (st : List Cell) : Res W := match y with
  | .p .non => match x with
    | .p .non => .ok (.p (.bl (!neg))) st
    | _ => .ok (.p (.bl neg)) st
  | _ => .no
theorem RW.nonOnly {x : W} {v : V} (r : RW K cl ρ G x v) (h : x ≠ .p .non) : v ≠ .non := fun e => by
  subst e
  cases x with
  | p x => cases r; exact h rfl
  | r i => obtain ⟨a, _, e⟩ := r; cases e
theorem vIs_ok : VOp K cl (vIsN false) (fun x y H Q => y = .non ∧ Q (.bl (decide (x = .non))) H) := by
  intro E0 ρ G st H x y v u Q Z R rx ry h
  unfold vIsN at h
  split at h
  · cases ry
    refine ⟨rfl, ?_⟩
    split at h
    · cases rx; exact h.here R (RP.bl _)
    · rename_i hn
      rw [decide_eq_false (rx.nonOnly hn)]
      exact h.here R (RP.bl _)
  · exact h.elim
def mulOk (i j : Int) : Bool := decide (i.natAbs.log2 + j.natAbs.log2 < 1000000)
def vAdd (x y : W) (st : List Cell) : Res W := match x, y with
  | .p (.int i), .p (.int j) => .ok (.p (.int (i + j))) st
  | .p (.str i), .p (.str j) => if i.length + j.length ≤ LIM then .ok (.p (.str (i ++ j))) st else .no
  | .p (.tup l), .p (.tup m) => if l.length + m.length ≤ LIM then .ok (.p (.tup (l ++ m))) st else .no
  | x, y => match unC st x, unC st y with
    | some (.lst l), some (.lst m) => if l.length + m.length ≤ LIM then .ok (.p (.lst (l ++ m))) st else .no
    | _, _ => .no
def rAddA (K : PySem.W.Frag) : R2 := fun x y H Q => ((rI0 (fun i j => .int (i + j)) x y H Q ∨ ∃ i j, x = .str i ∧ y = .str j ∧ i.length + j.length ≤ sizeLine ∧ Q (.str (i ++ j)) H) ∨ rCatA K x y H Q) ∨ rCat x y H Q
theorem op_addA : OpR X (binaryOp .Add) (rAddA X.K) := ((op_add.or op_add_str).or op_catA).or op_cat
theorem unC_lst (R : (bs K cl E0).Rel ρ G st H) {w : W} {v : V} {l : List P} (r : RW K cl ρ G w v) (e : unC st w = some (.lst l)) : ∃ a vs, v = .ref a ∧ H a = some (.lst vs) ∧ RPs K cl G l vs := by
  unfold unC at e
  cases w with
  | p x =>
    cases e
    cases r with
    | lst h q => exact ⟨_, _, rfl, R.sub _ _ h, q⟩
  | r i =>
    obtain ⟨a, ha, rfl⟩ := r
    dsimp only at e
    split at e
    · rename_i l' el
      split at e
      · rename_i m' em'
        cases e
        obtain ⟨b, hb, ⟨vs, h2, h3⟩, _⟩ := R.at el
        cases Option.some.inj (ha.symm.trans hb)
        exact ⟨a, vs, rfl, h2, h3.pures em'⟩
      · cases e
    · cases e
theorem vAdd_ok : VOp K cl vAdd (rAddA K) := by
  intro E0 ρ G st H x y v u Q Z R rx ry h
  unfold vAdd at h
  split at h
  · cases rx; cases ry
    exact .inl (.inl (.inl ⟨_, _, rfl, rfl, h.here R (RP.int _)⟩))
  · cases rx; cases ry
    split at h
    · rename_i hl
      exact .inl (.inl (.inr ⟨_, _, rfl, rfl, lim_le hl, h.here R (RP.str _)⟩))
    · exact h.elim
  · rename_i l m
    cases rx with
    | tup h1 q1 =>
      cases ry with
      | tup h2 q2 =>
        split at h
        · rename_i hl
          refine .inl (.inr ⟨_, _, _, _, rfl, rfl, R.sub.sqT h1, R.sub.sqT h2, by rw [← q1.length, ← q2.length]; exact lim_le hl, fun e => ?_, fun _ e => ?_, fun _ _ p hp => ?_⟩)
          · subst e
            cases q1
            exact h.here R (RP.tup h2 q2)
          · subst e
            cases q2
            rw [List.append_nil] at h
            exact h.here R (RP.tup h1 q1)
          · exact h.newP R hp (.tup (.inl (.inl upd_same)) ((q1.append q2).mono (Sub.new (R.gnone hp))))
        · exact h.elim
  · split at h
    · rename_i l m el em
      obtain ⟨a, vs, rfl, h1, q1⟩ := unC_lst R rx el
      obtain ⟨b, us, rfl, h2, q2⟩ := unC_lst R ry em
      split at h
      · rename_i hl
        exact .inr ⟨_, _, _, _, rfl, rfl, h1, h2, by rw [← q1.length, ← q2.length]; exact lim_le hl, fun p hp => h.newP R hp (.lst upd_same ((q1.append q2).mono (Sub.new (R.gnone hp))))⟩
      · exact h.elim
    · exact h.elim
theorem se_add {a b : EM} {pa pb : Expr} {pos : Pos} (g : GX K X) (ha : SE K cl X Wx a pa) (hb : SE K cl X Wx b pb) : SE K cl X Wx (mBin vAdd a b) (.BinOp pa .Add pb pos) := by
  obtain ⟨hK, _⟩ := g
  subst hK
  exact se_bin op_addA vAdd_ok ha hb
def vSub := vI2 (fun _ _ => true) fun i j => .int (i - j)
theorem se_sub {a b : EM} {pa pb : Expr} {pos : Pos} (ha : SE K cl X Wx a pa) (hb : SE K cl X Wx b pb) : SE K cl X Wx (mBin vSub a b) (.BinOp pa .Sub pb pos) := se_bin op_sub (vI2_ok0 fun i j G => RP.int _) ha hb
def vFdv := vI2 (fun _ j => decide (0 < j ∧ j.natAbs.log2 < 9000)) fun i j => .int (i / j)
theorem se_fdv {a b : EM} {pa pb : Expr} {pos : Pos} (ha : SE K cl X Wx a pa) (hb : SE K cl X Wx b pb) : SE K cl X Wx (mBin vFdv a b) (.BinOp pa .FloorDiv pb pos) := se_bin op_fdivW (vI2_ok (fun i j G => RP.int _) fun i j h => by have h := of_decide_eq_true h; exact h) ha hb
def vMod := vI2 (fun _ j => decide (0 < j)) fun i j => .int (i % j)
theorem se_mod {a b : EM} {pa pb : Expr} {pos : Pos} (ha : SE K cl X Wx a pa) (hb : SE K cl X Wx b pb) : SE K cl X Wx (mBin vMod a b) (.BinOp pa .Mod pb pos) := se_bin op_mod (vI2_ok (fun i j G => RP.int _) fun i j h => by have h := of_decide_eq_true h; exact h) ha hb
def vPow := vI2 (fun i j => decide (0 ≤ j ∧ j ≤ 1000 ∧ i.natAbs < 1000)) fun i j => .int (i ^ j.toNat)
theorem se_pow {a b : EM} {pa pb : Expr} {pos : Pos} (ha : SE K cl X Wx a pa) (hb : SE K cl X Wx b pb) : SE K cl X Wx (mBin vPow a b) (.BinOp pa .Pow pb pos) := se_bin op_pow (vI2_ok (fun i j G => RP.int _) fun i j h => by
  have h := of_decide_eq_true h
  exact ⟨h.1, by omega, by omega⟩) ha hb
def vMulI := vI2 mulOk fun i j => .int (i * j)
theorem se_mulI {a b : EM} {pa pb : Expr} {pos : Pos} (ha : SE K cl X Wx a pa) (hb : SE K cl X Wx b pb) : SE K cl X Wx (mBin vMulI a b) (.BinOp pa .Mult pb pos) := se_bin op_mulW (vI2_ok (fun i j G => RP.int _) fun i j h => by have h := of_decide_eq_true h; exact h) ha hb
def vLt := vI2 (fun _ _ => true) fun i j => .bl (decide (i < j))
def vLe := vI2 (fun _ _ => true) fun i j => .bl (decide (i ≤ j))
def vGt := vI2 (fun _ _ => true) fun i j => .bl (decide (j < i))
def vGe := vI2 (fun _ _ => true) fun i j => .bl (decide (j ≤ i))
theorem vLt_ok : VOp K cl vLt (rI0 fun i j => .bl (decide (i < j))) := vI2_ok0 fun i j G => RP.bl _
theorem vLe_ok : VOp K cl vLe (rI0 fun i j => .bl (decide (i ≤ j))) := vI2_ok0 fun i j G => RP.bl _
theorem vGt_ok : VOp K cl vGt (rI0 fun i j => .bl (decide (j < i))) := vI2_ok0 fun i j G => RP.bl _
theorem vGe_ok : VOp K cl vGe (rI0 fun i j => .bl (decide (j ≤ i))) := vI2_ok0 fun i j G => RP.bl _
theorem se_is {a b : EM} {pa pb : Expr} {pos : Pos} (ha : SE K cl X Wx a pa) (hb : SE K cl X Wx b pb) (hm : behindInMarks .Is pb = false := by rfl) : SE K cl X Wx (mBin (vIsN false) a b) (.Compare pa [.Is] [pb] pos) := se_cmp op_isN hm vIs_ok ha hb
def mChain (f f2 : W → W → List Cell → Res W) (a b c : EM) : EM := fun σ st => (a σ st).bind fun x st1 => (b σ st1).bind fun y st2 => (f x y st2).bind fun t st3 => match t with
  | .p (.bl k) => if k = true then (c σ st3).bind fun z st4 => f2 y z st4 else .ok (.p (.bl false)) st3
  | _ => .no
theorem chain_core {r r' : R2} {f f2 : W → W → List Cell → Res W} {a b c : EM} {pa pb pc : Expr} {Q : VK} (hf : VOp K cl f r) (hf2 : VOp K cl f2 r') (ha : SE K cl X Wx a pa) (hb : SE K cl X Wx b pb) (hc : SE K cl X Wx c pc)
    (R : (bs K cl E0).Rel ρ G st H) (S : RS K cl ρ G σ τ) (h : Aft (bs K cl E0) (bs K cl E0).RW ρ G (mChain f f2 a b c σ st) Q (fun c d H' => Wx c d τ H')) : tChain r r' (T X pa) (T X pb) (T X pc) τ H Q := by
  refine ha.run E0 ρ G σ st τ H _ R S (Aft.seq h fun x st1 ρ1 G1 H1 v e1 p1 s1 R1 u1 h1 => ?_)
  refine hb.run E0 ρ1 G1 σ st1 τ H1 _ R1 (S.mono p1 s1) (Aft.seq h1 fun y st2 ρ2 G2 H2 u e2 p2 s2 R2 u2 h2 => ?_)
  refine hf E0 ρ2 G2 st2 H2 x y v u _ _ R2 (RW.mono p2 s2 u1) u2 (Aft.seq h2 fun t st3 ρ3 G3 H3 z e3 p3 s3 R3 u3 h3 => ?_)
  split at h3
  · rename_i k
    cases u3
    refine ⟨k, rfl, ?_⟩
    cases k with
    | false => exact Aft.here (b := V.bl false) h3 R3 (RP.bl false)
    | true =>
      simp only [if_true] at h3 ⊢
      refine hc.run E0 ρ3 G3 σ st3 τ H3 _ R3 (S.mono (p1.trans (p2.trans p3)) (s1.trans (s2.trans s3))) (Aft.seq h3 fun w st4 ρ4 G4 H4 w' e4 p4 s4 R4 u4 h4 => ?_)
      exact hf2 E0 ρ4 G4 st4 H4 y w u w' _ _ R4 (RW.mono (p3.trans p4) (s3.trans s4) u2) u4 h4
  · exact h3.elim
theorem se_chain {op op' : CmpOp} {r r' : R2} {f f2 : W → W → List Cell → Res W} {a b c : EM} {pa pb pc : Expr} {pos : Pos} (ho : OpR X (compareOp op) r) (ho' : OpR X (compareOp op') r') (hf : VOp K cl f r) (hf2 : VOp K cl f2 r')
    (ha : SE K cl X Wx a pa) (hb : SE K cl X Wx b pb) (hc : SE K cl X Wx c pc) (hm : lastMarks [op, op'] [pb, pc] = false := by with_unfolding_all rfl) : SE K cl X Wx (mChain f f2 a b c) (.Compare pa [op, op'] [pb, pc] pos) :=
  ⟨fun E0 ρ G σ st τ H Q R S h => T.of (pe_chain ho ho' T.pe T.pe T.pe hm) (chain_core hf hf2 ha hb hc R S h)⟩
def mNeg (a : EM) : EM := fun σ st => (a σ st).bind fun w st1 => match w with
  | .p (.int i) => .ok (.p (.int (-i))) st1
  | _ => .no
theorem se_neg {a : EM} {pa : Expr} {pos : Pos} (ha : SE K cl X Wx a pa) : SE K cl X Wx (mNeg a) (.UnaryOp .USub pa pos) := by
  refine ⟨fun E0 ρ G σ st τ H Q R S h => T.of (pe_un un_neg T.pe) ?_⟩
  refine ha.run E0 ρ G σ st τ H _ R S (Aft.seq h fun w st1 ρ1 G1 H1 v e1 p1 s1 R1 u1 h1 => ?_)
  split at h1
  · rename_i i
    cases u1
    exact ⟨i, rfl, h1.here R1 (RP.int _)⟩
  · exact h1.elim
def oNone : OM := fun _ st => .ok none st
def oSome (a : EM) : OM := fun σ st => (a σ st).bind fun w st1 => match w with
  | .p (.int i) => .ok (some i) st1
  | _ => .no
theorem so_none : SO K cl X Wx oNone none := ⟨fun E0 ρ G σ st τ H Q R S h => TO'.of po_none (h.here (b := none) R rfl)⟩
theorem so_some {a : EM} {e : Expr} (ha : SE K cl X Wx a e) : SO K cl X Wx (oSome a) (some e) := by
  refine ⟨fun E0 ρ G σ st τ H Q R S h => TO'.of (po_some T.pe) ?_⟩
  refine ha.run E0 ρ G σ st τ H _ R S (Aft.seq h fun w st1 ρ1 G1 H1 v e1 p1 s1 R1 u1 h1 => ?_)
  split at h1
  · rename_i i
    cases u1
    exact ⟨i, rfl, h1.here (b := some i) R1 rfl⟩
  · exact h1.elim
theorem cutL_all {α : Type} {xs : List α} {lo hi : Option Int} (h : HT.sIx xs.length 0 lo = 0 ∧ HT.sIx xs.length xs.length hi = xs.length) : cutL xs lo hi = xs := by
  unfold cutL
  rw [h.1, h.2]; simp
def vSl (x : W) (lo hi : Option Int) (st : List Cell) : Res W := match x with
  | .p (.str z) => if z.length ≤ LIM then .ok (.p (.str (cutS z lo hi))) st else .no
  | .p (.tup l) => .ok (.p (.tup (cutL l lo hi))) st
  | .p (.scr l) => .ok (.p (.lst ((cutL l lo hi).map .int))) st
  | x => match unC st x with
    | some (.lst l) => .ok (.p (.lst (cutL l lo hi))) st
    | _ => .no
def mSl (a : EM) (lo hi : OM) : EM := fun σ st => (a σ st).bind fun x st1 => (lo σ st1).bind fun l st2 => (hi σ st2).bind fun u st3 => vSl x l u st3
theorem map_cut {l : List Int} {lo hi : Option Int} : cutV (l.map V.int) lo hi = (cutL l lo hi).map V.int := by
  unfold cutV cutL
  rw [List.length_map, List.map_take, List.map_drop]
theorem se_sl {a : EM} {lo hi : OM} {e : Expr} {el eh : Option Expr} {pos p2 : Pos} (g : GX K X) (ha : SE K cl X Wx a e) (hl : SO K cl X Wx lo el) (hh : SO K cl X Wx hi eh) : SE K cl X Wx (mSl a lo hi) (.Subscript e (.Slice el eh none p2) pos) := by
  obtain ⟨hK, _⟩ := g
  subst hK
  refine ⟨fun E0 ρ G σ st τ H Q R S h => T.of (pe_slice ((sl_list.or sl_tupA).or sl_str) T.pe TO'.po TO'.po) ?_⟩
  refine ha.run E0 ρ G σ st τ H _ R S (Aft.seq h fun x st1 ρ1 G1 H1 v e1 p1 s1 R1 u1 h1 => ?_)
  refine hl.run E0 ρ1 G1 σ st1 τ H1 _ R1 (S.mono p1 s1) (Aft.seq h1 fun l st2 ρ2 G2 H2 l' e2 p2 s2 R2 u2 h2 => ?_)
  obtain rfl : l = l' := u2
  refine hh.run E0 ρ2 G2 σ st2 τ H2 _ R2 (S.mono (p1.trans p2) (s1.trans s2)) (Aft.seq h2 fun u st3 ρ3 G3 H3 u' e3 p3 s3 R3 u3 h3 => ?_)
  obtain rfl : u = u' := u3
  replace u1 := RW.mono (p2.trans p3) (s2.trans s3) u1
  unfold vSl at h3
  split at h3
  · cases u1
    split at h3
    · rename_i hz
      exact .inr ⟨_, rfl, lim_le hz, h3.here R3 (RP.str _)⟩
    · exact h3.elim
  · cases u1 with
    | tup hh q =>
      refine .inl (.inr ⟨_, _, rfl, R3.sub.sqT hh, fun e => ?_, fun e p hp => ?_⟩)
      · rw [cutL_all (by rw [q.length]; exact e)] at h3
        exact h3.here R3 (RP.tup hh q)
      · exact h3.newP R3 hp (.tup (.inl (.inl upd_same)) ((q.cut l u).mono (Sub.new (R3.gnone hp))))
  · cases u1 with
    | scr hh =>
      refine .inl (.inl ⟨_, _, rfl, R3.sub.sqL hh, fun p hp => ?_⟩)
      rw [map_cut]
      exact h3.newP R3 hp (.lst upd_same (RPs.ints _))
  · split at h3
    · rename_i m em
      obtain ⟨b, vs, rfl, h4, q⟩ := unC_lst R3 u1 em
      exact .inl (.inl ⟨_, _, rfl, .inl (.inl h4), fun p hp => h3.newP R3 hp (.lst upd_same ((q.cut l u).mono (Sub.new (R3.gnone hp))))⟩)
    · exact h3.elim
end
end Y
namespace Y
open PySem PySem.Spec PyProof.Rows L2
section
variable {K : PySem.W.Frag} {cl : Cls} {X : Cx} {Wx : WX} {E0 : En} {ρ ρ' : List Addr} {G G' : Hp} {σ : Sg} {τ : L2.St} {st : List Cell} {H : Hp} {D : Ends}
theorem RWs.one {w : W} {vs : List V} (r : RWs K cl ρ G [w] vs) : ∃ v, vs = [v] ∧ RW K cl ρ G w v := by
  cases r with
  | cons r rn => cases rn; exact ⟨_, rfl, r⟩
theorem RWs.two {w w2 : W} {vs : List V} (r : RWs K cl ρ G [w, w2] vs) : ∃ v u, vs = [v, u] ∧ RW K cl ρ G w v ∧ RW K cl ρ G w2 u := by
  cases r with
  | cons r rn =>
    obtain ⟨u, rfl, r2⟩ := rn.one
    exact ⟨_, _, rfl, r, r2⟩
def vAbs (ws : List W) (st : List Cell) : Res W := match ws with
  | [.p (.int i)] => .ok (.p (.int (if i < 0 then -i else i))) st
  | _ => .no
def vInt (ws : List W) (st : List Cell) : Res W := match ws with
  | [.p (.int i)] => .ok (.p (.int i)) st
  | [.p (.bl k)] => .ok (.p (.int (if k then 1 else 0))) st
  | [.p (.str a)] => match PySem.intText? a with
    | some n => if a.length ≤ 640 then .ok (.p (.int n)) st else .no
    | none => .no
  | _ => .no
def rIntA : List V → Hp → VK → Prop := fun xs H Q => ((∃ i, xs = [.int i] ∧ Q (.int i) H) ∨ ∃ k, xs = [.bl k] ∧ Q (.int (if k then 1 else 0)) H) ∨ ∃ a n, xs = [.str a] ∧ PySem.intText? a = some n ∧ a.length ≤ 640 ∧ Q (.int n) H
theorem call_intA : CallR X (.type "int") rIntA := call_int1.or call_int_str
theorem vInt_ok : VCall K cl vInt rIntA := by
  intro E0 ρ G st H ws vs Q Z R rw' h
  unfold vInt at h
  split at h
  · obtain ⟨v, rfl, r⟩ := rw'.one
    cases r
    exact .inl (.inl ⟨_, rfl, h.here R (RP.int _)⟩)
  · obtain ⟨v, rfl, r⟩ := rw'.one
    cases r
    exact .inl (.inr ⟨_, rfl, h.here R (RP.int _)⟩)
  · obtain ⟨v, rfl, r⟩ := rw'.one
    cases r
    split at h
    · rename_i n en
      split at h
      · rename_i hl
        exact .inr ⟨_, n, rfl, en, hl, h.here R (RP.int _)⟩
      · exact h.elim
    · exact h.elim
  · exact h.elim
def vStr (ws : List W) (st : List Cell) : Res W := match ws with
  | [.p (.int i)] => if i.natAbs.log2 < 1920 then .ok (.p (.str (toString i))) st else .no
  | [.p (.str a)] => .ok (.p (.str a)) st
  | _ => .no
def rStrA : List V → Hp → VK → Prop := fun xs H Q => (∃ i, xs = [.int i] ∧ i.natAbs.log2 < 1920 ∧ Q (.str (toString i)) H) ∨ ∃ a, xs = [.str a] ∧ Q (.str a) H
theorem call_strA : CallR X (.type "str") rStrA := call_str_int.or SkE.call_str_str
theorem vStr_ok : VCall K cl vStr rStrA := by
  intro E0 ρ G st H ws vs Q Z R rw' h
  unfold vStr at h
  split at h
  · obtain ⟨v, rfl, r⟩ := rw'.one
    cases r
    split at h
    · rename_i hl
      exact .inl ⟨_, rfl, hl, h.here R (RP.str _)⟩
    · exact h.elim
  · obtain ⟨v, rfl, r⟩ := rw'.one
    cases r
    exact .inr ⟨_, rfl, h.here R (RP.str _)⟩
  · exact h.elim
def intsOf : List P → Option (List Int)
  | [] => some []
  | .int i :: l => match intsOf l with
    | some m => some (i :: m)
    | none => none
  | _ => none
theorem intsOf_map (l : List Int) : intsOf (l.map P.int) = some l := by
  induction l with
  | nil => rfl
  | cons i l ih => rw [List.map_cons, intsOf, ih]
def listOf (st : List Cell) (w : W) : Option (List P) := match unC st w with
  | some (.lst l) => some l
  | _ => none
theorem listOf_ok (R : (bs K cl E0).Rel ρ G st H) {w : W} {v : V} {l : List P} (r : RW K cl ρ G w v) (e : listOf st w = some l) : ∃ a vs, v = .ref a ∧ H a = some (.lst vs) ∧ RPs K cl G l vs := by
  unfold listOf at e
  split at e
  · rename_i m em
    cases e
    exact unC_lst R r em
  · cases e
def maxI : List Int → Int
  | [] => 0
  | [i] => i
  | i :: l => max i (maxI l)
def minI : List Int → Int
  | [] => 0
  | [i] => i
  | i :: l => min i (minI l)
def vSum (ws : List W) (st : List Cell) : Res W := match ws with
  | [w] => match (listOf st w).bind intsOf with
    | some l => .ok (.p (.int l.sum)) st
    | none => .no
  | _ => .no
def vMax (ws : List W) (st : List Cell) : Res W := match ws with
  | [w] => match (listOf st w).bind intsOf with
    | some l => if 0 < l.length then .ok (.p (.int (maxI l))) st else .no
    | none => .no
  | [.p (.int i), .p (.int j)] => .ok (.p (.int (if j > i then j else i))) st
  | _ => .no
def vMin (ws : List W) (st : List Cell) : Res W := match ws with
  | [w] => match (listOf st w).bind intsOf with
    | some l => if 0 < l.length then .ok (.p (.int (minI l))) st else .no
    | none => .no
  | [.p (.int i), .p (.int j)] => .ok (.p (.int (if j < i then j else i))) st
  | _ => .no
def truF : P → Option Bool
  | .bl b => some b
  | .int i => some (i != 0)
  | _ => none
def trusF : List P → Option (List Bool)
  | [] => some []
  | x :: l => match truF x, trusF l with
    | some b, some bs => some (b :: bs)
    | _, _ => none
theorem truF_ok {x : P} {v : V} {b : Bool} (r : RP K cl G x v) (e : truF x = some b) : TrV v b := by
  cases r <;> first | (unfold truF at e; cases e; done) | skip
  · cases e; exact .bl _
  · cases e; exact .int _
theorem trusF_ok : ∀ {l : List P} {vs : List V} {bs : List Bool}, RPs K cl G l vs → trusF l = some bs → Paired TrV vs bs
  | _, _, _, .nil, e => by rw [trusF] at e; cases e; exact .nil
  | _, _, _, .cons h r, e => by
    rw [trusF] at e
    split at e
    · rename_i b bs e1 e2; cases e; exact .cons (truF_ok h e1) (trusF_ok r e2)
    · cases e
theorem truth_tr {prog : Program} {w : World} {A : Around} : ∀ {vs : List V} {its : List Value} {bs : List Bool}, Vals vs its → Paired TrV vs bs → TruthOf prog w A (fun i v => its.toArray[i]? = some v) (fun i => bs.getD i false) := by
  intro vs its bs rv pr i v s Q E hv hq
  have hv' : its[i]? = some v := by simpa using hv
  clear hv
  induction rv generalizing i bs with
  | nil => simp at hv'
  | cons r t ih =>
    cases pr with
    | cons p pt =>
      cases i with
      | zero =>
        have e : _ = v := Option.some.inj hv'
        subst e
        have hq' : Q _ s := hq
        cases p with
        | bl b => cases r; exact wpAny_truthy_bool hq'
        | int i => obtain ⟨t, rfl⟩ := r; exact PySem.P.truthy_int hq'
      | succ i => exact ih pt i hq (by simpa using hv')
theorem iter_anyT {prog : Program} {w : World} {A : Around} {E : Value → Shared → Prop} {s : Shared} {l : Addr} {items : Array Value} {Q : Value → Shared → Prop} (hl : s.heap.IsTuple l items)
    (h : ∀ s₂ : Shared, s₂ = { s with heap := s.heap.push { cls := .type "tuple_iterator", data := .fields #[.ref l, .int 0 0] } } →
      (s₂.heap.IsTupleIter s.heap.objs.size l 0 ∧ s₂.heap.IsTuple l items) → l ≠ s.heap.objs.size → Q (.ref s.heap.objs.size) s₂) : wpAny (model prog w) A (pyIter (.ref l)) Q E s := by
  have hlt : l < s.heap.objs.size := by obtain ⟨_, e, _⟩ := hl; exact Heap.lt_size e
  exact wpAny_pyIter_tuple hl (h _ rfl ⟨⟨_, Heap.get?_push_size _ rfl, rfl, rfl⟩, hl.push _⟩ (Nat.ne_of_lt hlt))
def rAnyG (K : PySem.W.Frag) (f : List Bool → Bool) : List V → Hp → VK → Prop := fun xs H Q => ∃ a vs bs, xs = [V.ref a] ∧ (SqL K H a vs ∨ SqT K H a vs) ∧ Paired TrV vs bs ∧ Q (.bl (f bs)) H
theorem call_allG (hc : X.calm = true) : CallR X (.builtin "all") (rAnyG X.K fun bs => bs.all id) := by
  intro pins s σ H xs us Q I r h
  obtain ⟨a, vs, bs, rfl, hs, pr, q⟩ := h
  rw [Vals.ref1 r]
  rcases hs with hs | hs
  · obtain ⟨its, rv, hl, _⟩ := I.list hs
    have hlen : its.toArray.size = bs.length := by rw [List.size_toArray, ← rv.length]; exact pr.length
    refine call_all_walk (iter_any hl.isList fun s₂ e2 st hne => ?_)
    subst e2
    refine ⟨_, _, _, _, _, _, _, rfl, Walks.list (A := X.A.in1) (I.ok.hd hc) _ a hne its.toArray, st, truth_tr rv pr, fun h' tk hk => ?_⟩
    refine ⟨.bl _, H, I.kept fun b o eo => hk b o (fun hmem => ?_) (Heap.get?_push_of_some _ eo), ?_, q⟩
    · rcases List.mem_cons.mp hmem with e1 | hmem
      · exact absurd (e1 ▸ Heap.lt_size eo) (Nat.lt_irrefl _)
      · cases hmem
    · dsimp only
      show Value.bool _ = Value.bool _
      rw [← L2.all_range, hlen]
  · obtain ⟨its, rv, hl, _⟩ := I.tuple hs
    have hlen : its.toArray.size = bs.length := by rw [List.size_toArray, ← rv.length]; exact pr.length
    refine call_all_walk (iter_anyT (show s.heap.IsTuple a its.toArray from hl) fun s₂ e2 st hne => ?_)
    subst e2
    refine ⟨_, _, _, _, _, _, _, rfl, Walks.tuple (A := X.A.in1) (I.ok.hd hc) _ a hne its.toArray, st, truth_tr rv pr, fun h' tk hk => ?_⟩
    refine ⟨.bl _, H, I.kept fun b o eo => hk b o (fun hmem => ?_) (Heap.get?_push_of_some _ eo), ?_, q⟩
    · rcases List.mem_cons.mp hmem with e1 | hmem
      · exact absurd (e1 ▸ Heap.lt_size eo) (Nat.lt_irrefl _)
      · cases hmem
    · dsimp only
      show Value.bool _ = Value.bool _
      rw [← L2.all_range, hlen]
def vAnyG (f : List Bool → Bool) (ws : List W) (st : List Cell) : Res W := match ws with
  | [w] => match (seqP st w).bind trusF with
    | some bs => .ok (.p (.bl (f bs))) st
    | none => .no
  | _ => .no
theorem vAnyG_ok {f : List Bool → Bool} : VCall K cl (vAnyG f) (rAnyG K f) := by
  intro E0 ρ G st H ws vs Q Z R rw' h
  unfold vAnyG at h
  split at h
  · obtain ⟨v, rfl, r⟩ := rw'.one
    split at h
    · rename_i w _ bs eb
      cases e1 : seqP st w with
      | none => rw [e1] at eb; cases eb
      | some l =>
        rw [e1] at eb
        obtain ⟨a, us, rfl, h1, q⟩ := seqP_ok R r e1
        exact ⟨a, us, bs, rfl, h1, trusF_ok q eb, h.here R (RP.bl _)⟩
    · exact h.elim
  · exact h.elim
def vLstOf (ws : List W) (st : List Cell) : Res W := match ws with
  | [w] => match seqP st w with
    | some l => .ok (.p (.lst l)) st
    | none => .no
  | _ => .no
def vLstOfC (ws : List W) (st : List Cell) : Res W := match ws with
  | [w] => match seqP st w with
    | some l => .ok (.r st.length) (st ++ [.lst (l.map .p)])
    | none => .no
  | _ => .no
def rLstOf (K : PySem.W.Frag) : List V → Hp → VK → Prop := fun xs H Q => ∃ p ys, xs = [.ref p] ∧ (SqL K H p ys ∨ SqT K H p ys) ∧ ∀ l, H l = none → Q (.ref l) (upd H l (.lst ys))
theorem vLstOf_ok : VCall K cl vLstOf (rLstOf K) := by
  intro E0 ρ G st H ws vs Q Z R rw' h
  unfold vLstOf at h
  split at h
  · obtain ⟨v, rfl, r⟩ := rw'.one
    split at h
    · rename_i l el
      obtain ⟨a, us, rfl, h1, q⟩ := seqP_ok R r el
      exact ⟨a, us, rfl, h1, fun p hp => h.newP R hp (.lst upd_same (q.mono (Sub.new (R.gnone hp))))⟩
    · exact h.elim
  · exact h.elim
theorem vLstOfC_ok : VCall K cl vLstOfC (rLstOf K) := by
  intro E0 ρ G st H ws vs Q Z R rw' h
  unfold vLstOfC at h
  split at h
  · obtain ⟨v, rfl, r⟩ := rw'.one
    split at h
    · rename_i l el
      obtain ⟨a, us, rfl, h1, q⟩ := seqP_ok R r el
      exact ⟨a, us, rfl, h1, fun p hp => h.newC R hp (fun z => by cases z) ⟨us, upd_same, .of_pures q⟩⟩
    · exact h.elim
  · exact h.elim
def vTupOf (ws : List W) (st : List Cell) : Res W := match ws with
  | [.p (.tup l)] => .ok (.p (.tup l)) st
  | [w] => match listOf st w with
    | some l => .ok (.p (.tup l)) st
    | none => .no
  | _ => .no
def rTupOf (K : PySem.W.Frag) : List V → Hp → VK → Prop := fun xs H Q => ∃ p ys, xs = [.ref p] ∧ ((SqL K H p ys ∧ ∀ l, H l = none → Q (.ref l) (upd H l (.tup ys))) ∨ (SqT K H p ys ∧ Q (.ref p) H))
theorem vTupOf_ok : VCall K cl vTupOf (rTupOf K) := by
  intro E0 ρ G st H ws vs Q Z R rw' h
  unfold vTupOf at h
  split at h
  · obtain ⟨v, rfl, r⟩ := rw'.one
    cases r with
    | tup hh q => exact ⟨_, _, rfl, .inr ⟨R.sub.sqT hh, h.here R (RP.tup hh q)⟩⟩
  · obtain ⟨v, rfl, r⟩ := rw'.one
    split at h
    · rename_i l el
      obtain ⟨a, us, rfl, h1, q⟩ := listOf_ok R r el
      exact ⟨a, us, rfl, .inl ⟨.inl (.inl h1), fun p hp => h.newP R hp (.tup (.inl (.inl upd_same)) (q.mono (Sub.new (R.gnone hp))))⟩⟩
    · exact h.elim
  · exact h.elim
end
end Y
namespace Y
open PySem PySem.Spec PyProof.Rows L2
def argRefs : List W → List Nat
  | [] => []
  | .p _ :: l => argRefs l
  | .r i :: l => i :: argRefs l
def argIn : Nat → List W → List W
  | _, [] => []
  | k, .p x :: l => .p x :: argIn k l
  | k, .r _ :: l => .r k :: argIn (k + 1) l
def callEnd (n : Nat) (refs : List Nat) (st : List Cell) : Res W → Res W
  | .ok w st' => if ((st'.drop n).take refs.length).all plainC = true ∧ n + refs.length ≤ st'.length then match w with
      | .p x => .ok (.p x) (putCells refs (st'.drop n) st)
      | .r j => if n ≤ j ∧ j < n + refs.length then match refs[j - n]? with
          | some i => .ok (.r i) (putCells refs (st'.drop n) st)
          | none => .no
        else if n + refs.length ≤ j then match st'[j]? with
          | some c => if plainC c = true then .ok (.r st.length) (putCells refs (st'.drop n) st ++ [c]) else .no
          | none => .no
        else .no
    else .no
  | .exc x st' => if ((st'.drop n).take refs.length).all plainC = true ∧ n + refs.length ≤ st'.length then .exc x (putCells refs (st'.drop n) st) else .no
  | .no => .no
def callF (F : FM) (ws : List W) (st : List Cell) : Res W :=
  if (argRefs ws).Nodup then match getCells st (argRefs ws) with
    | some cs => callEnd 0 (argRefs ws) st (F (argIn 0 ws) cs)
    | none => .no
  else .no
section
variable {K : PySem.W.Frag} {cl : Cls} {X : Cx} {Wx : WX} {E0 : En} {ρ ρ' ρ2 : List Addr} {G G' : Hp} {σ : Sg} {τ : L2.St} {st st' : List Cell} {H H' Hm : Hp} {D : Ends}
theorem plainC_live {c : Cell} (h : plainC c = true) : c ≠ .dead := fun e => by subst e; cases h
theorem getCells_length : ∀ {refs : List Nat} {cs : List Cell}, getCells st refs = some cs → cs.length = refs.length
  | [], cs, e => by rw [getCells] at e; cases e; rfl
  | k :: is, cs, e => by
    rw [getCells] at e
    split at e
    · split at e
      · split at e
        · rename_i ds ed
          cases e
          exact congrArg Nat.succ (getCells_length ed)
        · cases e
      · cases e
    · cases e
theorem rhos_nodup (R : Rel K cl E0 ρ G st H) {refs : List Nat} {cs : List Cell} (nd : refs.Nodup) (e : getCells st refs = some cs) : (rhos ρ refs).Nodup := by
  refine List.pairwise_iff_getElem.mpr fun i j hi hj hij q => ?_
  obtain ⟨k1, r1, e1⟩ := rhos_of R e (List.getElem?_eq_getElem hi)
  obtain ⟨k2, r2, e2⟩ := rhos_of R e (List.getElem?_eq_getElem hj)
  rw [q] at e1
  have := getElem?_inj R.nd e1 e2
  subst this
  have := getElem?_inj nd r1 r2
  omega
theorem Rel.enter (R : Rel K cl E0 ρ G st H) {refs : List Nat} {cs xc : List Cell} {xs : List Addr} (nd : refs.Nodup) (hc : getCells st refs = some cs) (up : Sub H Hm) (hx : ∀ x ∈ xs, H x = none) (xnd : xs.Nodup) (xl : xs.length = xc.length)
    (hxc : ∀ (i : Nat) c x, xc[i]? = some c → xs[i]? = some x → CA K cl (xs ++ rhos ρ refs) G Hm x c) : Rel K cl ⟨strip Hm, (xs ++ rhos ρ refs).length, G⟩ (xs ++ rhos ρ refs) G (xc ++ cs) Hm := by
  have lr : (rhos ρ refs).length = refs.length := List.length_map ..
  have lc := getCells_length hc
  have there : ∀ a, a ∈ rhos ρ refs → ∃ o, H a = some o := fun a m => by
    obtain ⟨j, hj⟩ := List.getElem?_of_mem m
    obtain ⟨i, _, h2⟩ := rhos_of R hc hj
    exact R.there h2
  refine ⟨by rw [List.length_append, List.length_append, xl, lr, lc], ?_, fun i c a e1 e2 => ?_, fun i c a e1 e2 => ?_, R.sub.trans up, fun a u e _ => (strip_to e).1, fun i a hi e => ?_, Nat.le_refl _, fun a u e => .inl e, fun a u e => (strip_to e).2, R.gnt, fun q hq => (R.tabs q hq).ext up⟩
  · refine List.nodup_append.mpr ⟨xnd, rhos_nodup R nd hc, fun a ha b hb z => ?_⟩
    subst z
    obtain ⟨o, q⟩ := there a hb
    rw [hx a ha] at q; cases q
  · rcases app_cut e1 with ⟨h1, h2⟩ | ⟨h1, h2⟩ <;> rcases app_cut e2 with ⟨h3, h4⟩ | ⟨h3, h4⟩
    · exact hxc i c a h2 h4
    · omega
    · omega
    · rw [xl] at h4
      obtain ⟨k, r1, r2⟩ := rhos_of R hc h4
      obtain ⟨d, g1, g2, g3⟩ := getCells_at hc r1
      rw [h2] at g1; cases g1
      have x := R.cell k c a g2 r2
      obtain ⟨o, q⟩ := R.there r2
      exact CA.plain g3 (x.mono (List.prefix_refl _) (Sub.refl _) ((up a o q).trans q.symm))
  · rcases app_cut e1 with ⟨h1, h2⟩ | ⟨h1, h2⟩ <;> rcases app_cut e2 with ⟨h3, h4⟩ | ⟨h3, h4⟩
    · exact .inr (R.gnone (hx a (List.mem_of_getElem? h4)))
    · omega
    · omega
    · rw [xl] at h4
      obtain ⟨k, r1, r2⟩ := rhos_of R hc h4
      obtain ⟨d, g1, g2, g3⟩ := getCells_at hc r1
      rw [h2] at g1; cases g1
      exact R.sep k c a g2 r2
  · have := (List.getElem?_eq_some_iff.mp e).1
    have hi : (xs ++ rhos ρ refs).length ≤ i := hi
    omega
theorem rws_argIn {ρc : List Addr} : ∀ {ws : List W} {vs : List V} (k : Nat), RWs K cl ρ G ws vs → (∀ (j i : Nat), (argRefs ws)[j]? = some i → ∃ a, ρ[i]? = some a ∧ ρc[k + j]? = some a) → RWs K cl ρc G (argIn k ws) vs
  | [], _, _, .nil, _ => .nil
  | .p x :: ws, _, k, .cons r rs, h => .cons (show RW K cl ρc G (.p x) _ from r) (rws_argIn k rs h)
  | .r i :: ws, _, k, .cons r rs, h => by
    obtain ⟨a, h1, h2⟩ := h 0 i rfl
    obtain ⟨b, h3, rfl⟩ := r
    rw [h1] at h3; cases h3
    refine .cons ⟨a, h2, rfl⟩ (rws_argIn (k + 1) rs fun j m e => ?_)
    obtain ⟨c, h4, h5⟩ := h (j + 1) m e
    exact ⟨c, h4, by rw [show k + 1 + j = k + (j + 1) by omega]; exact h5⟩
theorem callF_ok {F : FM} {ws : List W} {vs : List V} {Q : VK} {Z : ZX} (R : (bs K cl E0).Rel ρ G st H) (r : RWs K cl ρ G ws vs) (h : Aft (bs K cl E0) (bs K cl E0).RW ρ G (callF F ws st) Q Z) : spF K cl F vs H Q Z := by
  unfold callF at h
  split at h
  case isFalse => exact h.elim
  rename_i nd
  split at h
  case h_2 => exact h.elim
  rename_i cs hc
  have nx : ∀ x ∈ ([] : List Addr), H x = none := fun x m => absurd m (by simp)
  have lr : (rhos ρ (argRefs ws)).length = (argRefs ws).length := List.length_map ..
  refine ⟨[] ++ rhos ρ (argRefs ws), G, [] ++ cs, argIn 0 ws, Rel.enter R nd hc (Sub.refl H) nx (by simp) rfl (fun i c x e => by simp at e), rws_argIn 0 r fun j i e => ?_, ?_⟩
  · obtain ⟨a, h1, h2⟩ := rhos_at R hc e
    exact ⟨a, h1, by rw [Nat.zero_add]; exact h2⟩
  · have h : Aft (bs K cl E0) (bs K cl E0).RW ρ G (callEnd 0 (argRefs ws) st (F (argIn 0 ws) cs)) Q Z := h
    show Aft _ _ _ _ (F (argIn 0 ws) cs) Q Z
    generalize F (argIn 0 ws) cs = res at h ⊢
    cases res with
    | no => exact h.elim
    | exc x st' =>
      intro ρ' G' H' cls d p s R' u
      unfold callEnd at h
      dsimp only at h
      by_cases hp : ((st'.drop 0).take (argRefs ws).length).all plainC = true ∧ 0 + (argRefs ws).length ≤ st'.length
      case neg => rw [if_neg hp] at h; exact h.elim
      rw [if_pos hp] at h
      exact h ρ G' H' cls d (List.prefix_refl _) s (Rel.ret R nd hc (Sub.refl H) nx p s R' hp.1 (by simpa using hp.2)) u
    | ok w st' =>
      intro ρ' G' H' v p s R' u
      unfold callEnd at h
      dsimp only at h
      by_cases hp : ((st'.drop 0).take (argRefs ws).length).all plainC = true ∧ 0 + (argRefs ws).length ≤ st'.length
      case neg => rw [if_neg hp] at h; exact h.elim
      rw [if_pos hp] at h
      have R2 := Rel.ret R nd hc (Sub.refl H) nx p s R' hp.1 (by simpa using hp.2)
      split at h
      · exact h ρ G' H' v (List.prefix_refl _) s R2 u
      · rename_i j
        obtain ⟨a, ha, rfl⟩ := u
        split at h
        · rename_i hj
          split at h
          · rename_i i ei
            obtain ⟨b, h1, h2⟩ := rhos_at R hc ei
            have : (rhos ρ (argRefs ws))[j]? = some a := by
              obtain ⟨tl, rfl⟩ := p
              rw [List.nil_append] at ha
              rw [List.getElem?_append_left (by rw [lr]; omega)] at ha
              exact ha
            rw [Nat.sub_zero, this] at h2; cases h2
            exact h ρ G' H' (.ref a) (List.prefix_refl _) s R2 ⟨a, h1, rfl⟩
          · exact h.elim
        · split at h
          · rename_i hj
            split at h
            · rename_i c ec
              split at h
              · rename_i hpl
                have x := R'.cell j c a ec ha
                have sp := (R'.sep j c a ec ha).resolve_left (plainC_live hpl)
                have hn : strip H a = none := R'.new j a (by rw [List.nil_append, lr]; show (argRefs ws).length ≤ j; omega) ha
                have R3 := Rel.adoptC (c := c) R2 (plainC_live hpl) sp (fun i e => (R.offF hn).1 i e) (R.offF hn).2 (CA.plain hpl x)
                refine h (ρ ++ [a]) G' H' (.ref a) (List.prefix_append _ _) s R3 ⟨a, ?_, rfl⟩
                rw [← R.len]; simp
              · exact h.elim
            · exact h.elim
          · exact h.elim
def mCallF (F : FM) (a : AM) : EM := fun σ st => (a σ st).bind fun ws st1 => (callF F ws st1).nox
theorem Aft.noxZ {B : Bs} {α β : Type} {U : List Addr → Hp → α → β → Prop} {R : Res α} {Q : β → Hp → Prop} {Z Z' : ZX} (h : Aft B U ρ G R.nox Q Z) : Aft B U ρ G R Q Z' := by
  cases R with
  | ok a st => exact h
  | exc x st => exact h.elim
  | no => exact h.elim
section
variable {f : Addr} {fd : FuncData} {ps : List Str} {F : FM} {a : AM} {k : Nat} {x m : Str} {p pos apos : Pos} {e : Expr} {es : List Expr}
theorem se_call (Fk : FnOk X.prog X.w X.K X.mg X.base CX0 k f fd ps (spF K cl F)) (hr : Room k X.A) (hg : Gl X x) (hm : X.mg x = some (.ref f)) (hk : PySem.W.keepIn X.K (.ref f) = true) (hb : Binds X.K fd ps [])
    (ha : SA K cl X Wx a (e :: es)) (hdb : (x == ("__debug__" : Str)) = false := by decide) (he : starEach (e :: es) X.env = (false, eval e X.env) :: starEach es X.env := by rfl) (hpl : (backTo pos (starEach es X.env)).any (·.1) = false := by rfl) :
    SE K cl X Wx (mCallF F a) (.Call (.Name x p) (e :: es) [] pos) := by
  refine ⟨fun E0 ρ G σ st τ H Q R S h => T.of (pe_call (E := L2.E0) Fk hr hg hm hk hb .nil pass0 TA'.pa hdb he hpl) ?_⟩
  refine ha.run E0 ρ G σ st τ H _ R S (Aft.seq h fun ws st1 ρ1 G1 H1 vs e1 p1 s1 R1 u1 h1 => ?_)
  rw [List.append_nil]
  exact callF_ok R1 u1 h1.noxZ
theorem se_call0 (Fk : FnOk X.prog X.w X.K X.mg X.base CX0 k f fd ps (spF K cl F)) (hr : Room k X.A) (hg : Gl X x) (hm : X.mg x = some (.ref f)) (hk : PySem.W.keepIn X.K (.ref f) = true) (hb : Binds X.K fd ps [])
    (hdb : (x == ("__debug__" : Str)) = false := by decide) : SE K cl X Wx (mCallF F mNil) (.Call (.Name x p) [] [] pos) := by
  refine ⟨fun E0 ρ G σ st τ H Q R S h => T.of (pe_call0 (E := L2.E0) Fk hr hg hm hk hb .nil pass0 hdb) ?_⟩
  exact callF_ok R .nil h.noxZ
def clsOf (st : List Cell) : W → Option Nat
  | .p (.obj c _) => some c
  | .r i => match st[i]? with
    | some (.ins c _) => some c
    | _ => none
  | _ => none
theorem zip_lookup_none {ns : List Str} {vs : List V} {m : Str} (h : m ∉ ns) : (ns.zip vs).lookup m = none := by
  induction ns generalizing vs with
  | nil => rfl
  | cons n ns ih =>
    cases vs with
    | nil => rfl
    | cons v vs =>
      rw [List.zip_cons_cons, List.lookup_cons]
      have : (m == n) = false := beq_eq_false_iff_ne.mpr fun e => h (by rw [e]; exact List.mem_cons_self)
      rw [this]
      exact ih fun z => h (List.mem_cons_of_mem _ z)
theorem clsOf_ok {w : W} {v : V} {c : Nat} {C : Addr} {ns : List Str} (R : (bs K cl E0).Rel ρ G st H) (r : RW K cl ρ G w v) (e : clsOf st w = some c) (hc : cl[c]? = some (C, ns)) : ∃ a dx vs, v = .ref a ∧ H a = some (.ins C dx (ns.zip vs)) := by
  cases w with
  | p x =>
    cases x with
    | obj c' l =>
      cases e
      cases r with
      | obj h1 h2 z q =>
        rw [hc] at h1; cases h1
        exact ⟨_, _, _, rfl, R.sub _ _ h2⟩
    | _ => cases e
  | r i =>
    obtain ⟨a, ha, rfl⟩ := r
    have e : (match st[i]? with | some (.ins c _) => some c | _ => none) = some c := e
    split at e
    · rename_i c' l el
      cases e
      obtain ⟨b, hb, ⟨C', dx, ns', vs, k, h1, z, q⟩, _⟩ := R.at el
      cases Option.some.inj (ha.symm.trans hb)
      rw [hc] at k; cases k
      exact ⟨a, dx, vs, rfl, h1⟩
    · cases e
def mMeth (c : Nat) (F : FM) (o : EM) (a : AM) : EM := fun σ st => (o σ st).bind fun w st1 => if clsOf st1 w = some c then (a σ st1).bind fun ws st2 => (callF F (w :: ws) st2).nox else .no
theorem se_meth {C : Addr} {ns : List Str} {c : Nat} {o : EM} {eo : Expr} {pl : Sem Bool} (hC : cl[c]? = some (C, ns)) (hn : m ∉ ns) (kc : L2.Cls X.K C) (hmt : Meth X.K C m f) (Fk : FnOk X.prog X.w X.K X.mg X.base CX0 k f fd ps (spF K cl F)) (hr : Room k X.A) (hb : Binds X.K fd ps [])
    (ho : SE K cl X Wx o eo) (ha : SA K cl X Wx a (e :: es))
    (hst : starEach (e :: es) X.env = (false, eval e X.env) :: starEach es X.env := by rfl) (hpl : (backTo pos (starEach es X.env)).any (·.1) = false := by rfl)
    (ht : eval (.Call (.Attribute eo m apos) (e :: es) [] pos) X.env = (do
      let ov ← eval eo X.env
      standAt apos.atName
      let (f, first) ← holding [ov] (getMethod ov m pl)
      callWith pos f first (backTo pos (starEach (e :: es) X.env)) (backToKw pos (keywordEach [] X.env))) := by rfl) :
    SE K cl X Wx (mMeth c F o a) (.Call (.Attribute eo m apos) (e :: es) [] pos) := by
  refine ⟨fun E0 ρ G σ st τ H Q R S h => T.of (pe_meth (E := L2.E0) T.pe kc hmt Fk hr hb .nil pass0 TA'.pa hst hpl ht) ?_⟩
  refine ho.run E0 ρ G σ st τ H _ R S (Aft.seq h fun w st1 ρ1 G1 H1 v e1 p1 s1 R1 u1 h1 => ?_)
  split at h1
  case isFalse => exact h1.elim
  rename_i ec
  obtain ⟨b, dx, vs, rfl, hH⟩ := clsOf_ok R1 u1 ec hC
  refine ⟨b, dx, _, rfl, hH, zip_lookup_none hn, ?_⟩
  refine ha.run E0 ρ1 G1 σ st1 τ H1 _ R1 (S.mono p1 s1) (Aft.seq h1 fun ws st2 ρ2 G2 H2 us e2 p2 s2 R2 u2 h2 => ?_)
  rw [List.append_nil]
  exact callF_ok R2 (.cons (RW.mono p2 s2 u1) u2) h2.noxZ
theorem se_meth0 {C : Addr} {ns : List Str} {c : Nat} {o : EM} {eo : Expr} {pl : Sem Bool} (hC : cl[c]? = some (C, ns)) (hn : m ∉ ns) (kc : L2.Cls X.K C) (hmt : Meth X.K C m f) (Fk : FnOk X.prog X.w X.K X.mg X.base CX0 k f fd ps (spF K cl F)) (hr : Room k X.A) (hb : Binds X.K fd ps [])
    (ho : SE K cl X Wx o eo)
    (ht : eval (.Call (.Attribute eo m apos) [] [] pos) X.env = (do
      let ov ← eval eo X.env
      standAt apos.atName
      let (f, first) ← holding [ov] (getMethod ov m pl)
      callWith pos f first (backTo pos (starEach [] X.env)) (backToKw pos (keywordEach [] X.env))) := by rfl) :
    SE K cl X Wx (mMeth c F o mNil) (.Call (.Attribute eo m apos) [] [] pos) := by
  refine ⟨fun E0 ρ G σ st τ H Q R S h => T.of (pe_meth0 (E := L2.E0) T.pe kc hmt Fk hr hb .nil pass0 ht) ?_⟩
  refine ho.run E0 ρ G σ st τ H _ R S (Aft.seq h fun w st1 ρ1 G1 H1 v e1 p1 s1 R1 u1 h1 => ?_)
  split at h1
  case isFalse => exact h1.elim
  rename_i ec
  obtain ⟨b, dx, vs, rfl, hH⟩ := clsOf_ok R1 u1 ec hC
  refine ⟨b, dx, _, rfl, hH, zip_lookup_none hn, ?_⟩
  show spF K cl F (V.ref b :: ([] ++ [])) H1 Q L2.E0
  exact callF_ok R1 (.cons u1 .nil) (ws := [w]) (vs := [.ref b]) h1.noxZ
def makeF (c n : Nat) (F : FM) (ws : List W) (st : List Cell) : Res W :=
  if (argRefs ws).Nodup then match getCells st (argRefs ws) with
    | some cs => match F (.r 0 :: argIn 1 ws) (.ins c [] :: cs) with
      | .ok (.p .non) st' => if ((st'.drop 1).take (argRefs ws).length).all plainC = true ∧ 1 + (argRefs ws).length ≤ st'.length then match (st'[0]? : Option Cell) with
          | some (Cell.ins c' l) => match pures l with
            | some m => if c' = c ∧ m.length = n then .ok (.p (.obj c m)) (putCells (argRefs ws) (st'.drop 1) st) else .no
            | none => .no
          | _ => .no
        else .no
      | _ => .no
    | none => .no
  else .no
def mMake (c n : Nat) (F : FM) (a : AM) : EM := fun σ st => (a σ st).bind fun ws st1 => makeF c n F ws st1
def mFld (cs : List (Nat × Nat)) (o : EM) : EM := fun σ st => (o σ st).bind fun w st1 => match w with
  | .p (.obj c l) => match cs.lookup c with
    | some i => match l[i]? with
      | some x => .ok (.p x) st1
      | none => .no
    | none => .no
  | .r j => match st1[j]? with
    | some (.ins c l) => match cs.lookup c with
      | some i => match l[i]? with
        | some x => .ok x st1
        | none => .no
      | none => .no
    | _ => .no
  | _ => .no
theorem zip_lookup_at : ∀ {ns : List Str} {vs : List V} {i : Nat} {m : Str} {v : V}, ns.Nodup → ns[i]? = some m → vs[i]? = some v → (ns.zip vs).lookup m = some v
  | [], _, _, _, _, _, h, _ => by simp at h
  | _ :: _, [], _, _, _, _, _, h => by simp at h
  | n :: ns, u :: vs, 0, m, v, _, h1, h2 => by
    simp at h1 h2
    subst h1; subst h2
    simp
  | n :: ns, u :: vs, i + 1, m, v, nd, h1, h2 => by
    have h1 : ns[i]? = some m := by simpa using h1
    have h2 : vs[i]? = some v := by simpa using h2
    rw [List.zip_cons_cons, List.lookup_cons]
    have : (m == n) = false := beq_eq_false_iff_ne.mpr fun e => (List.nodup_cons.mp nd).1 (by rw [← e]; exact List.mem_of_getElem? h1)
    rw [this]
    exact zip_lookup_at (List.nodup_cons.mp nd).2 h1 h2
theorem lookup_mem : ∀ {cs : List (Nat × Nat)} {c i : Nat}, cs.lookup c = some i → (c, i) ∈ cs
  | [], _, _, h => by simp at h
  | (a, b) :: cs, c, i, h => by
    rw [List.lookup_cons] at h
    split at h
    · rename_i e
      cases h
      have : c = a := eq_of_beq e
      subst this
      exact List.mem_cons_self
    · exact List.mem_cons_of_mem _ (lookup_mem h)
theorem se_fld {cs : List (Nat × Nat)} {o : EM} {eo : Expr} {fn : Str} (g : GX K X) (hf : ∀ q ∈ cs, FldAt K cl fn q.1 q.2) (ho : SE K cl X Wx o eo) (hb : attributeBase eo fn X.env (eval eo X.env) = eval eo X.env := by rfl) : SE K cl X Wx (mFld cs o) (.Attribute eo fn pos) := by
  obtain ⟨hK, _⟩ := g
  subst hK
  refine ⟨fun E0 ρ G σ st τ H Q R S h => T.of (pe_fld T.pe hb) ?_⟩
  refine ho.run E0 ρ G σ st τ H _ R S (Aft.seq h fun w st1 ρ1 G1 H1 v e1 p1 s1 R1 u1 h1 => ?_)
  split at h1
  · rename_i c l
    split at h1
    · rename_i i ei
      split at h1
      · rename_i y ey
        obtain ⟨C, ns, k1, k2, k3, k4, k5⟩ := (hf (c, i) (lookup_mem ei)).ex
        cases u1 with
        | obj g1 g2 z q =>
          rw [k1] at g1; cases g1
          obtain ⟨u, eu, ru⟩ := q.get ey
          exact ⟨_, C, _, _, u, rfl, R1.sub _ _ g2, k4, k5, zip_lookup_at k2 k3 eu, h1.here R1 ru⟩
      · exact h1.elim
    · exact h1.elim
  · rename_i j
    obtain ⟨b, hb', rfl⟩ := u1
    split at h1
    · rename_i c l el
      split at h1
      · rename_i i ei
        split at h1
        · rename_i y ey
          obtain ⟨C, ns, k1, k2, k3, k4, k5⟩ := (hf (c, i) (lookup_mem ei)).ex
          obtain ⟨b2, hb2, ⟨C', dx, ns', vs, g1, g2, z, q⟩, _⟩ := R1.at el
          cases Option.some.inj (hb'.symm.trans hb2)
          rw [k1] at g1; cases g1
          obtain ⟨u, eu, ru⟩ := q.get ey
          exact ⟨_, C, _, _, u, rfl, g2, k4, k5, zip_lookup_at k2 k3 eu, h1.here R1 ru⟩
        · exact h1.elim
      · exact h1.elim
    · exact h1.elim
  · exact h1.elim
end
end
end Y
namespace Y
open PySem PySem.Spec PyProof.Rows L2
section
variable {K : PySem.W.Frag} {cl : Cls} {X : Cx} {Wx : WX} {E0 : En} {ρ ρ' : List Addr} {G G' : Hp} {σ : Sg} {τ : L2.St} {st : List Cell} {H : Hp} {D : Ends}
def sNo : SMm := fun _ _ => .no
def sAug (i : Nat) (f : W → W → List Cell → Res W) (m : EM) : SMm := fun σ st => match σ[i]? with
  | some (some x) => (m σ st).to σ fun y st1 => match f x y st1 with
    | .ok z st2 => .ok .nx (σ.set i (some z)) st2
    | _ => .no
  | _ => .no
def vIadd (x y : W) (st : List Cell) : Res W := match x, y with
  | .p (.int i), .p (.int j) => .ok (.p (.int (i + j))) st
  | .p (.str i), .p (.str j) => if i.length + j.length ≤ LIM then .ok (.p (.str (i ++ j))) st else .no
  | _, _ => .no
def tyW (st : List Cell) : W → Option String
  | .p (.str _) => some "str"
  | .p (.lst _) => some "list"
  | .r i => match st[i]? with
    | some (.lst _) => some "list"
    | some (.dk _ _) => some "dict"
    | _ => none
  | .p (.dk _ _) => some "dict"
  | _ => none
theorem tyW_ok {T : String} {w : W} {v : V} (R : (bs K cl E0).Rel ρ G st H) (r : RW K cl ρ G w v) (e : tyW st w = some T) : tyV K T v H := by
  cases w with
  | p x =>
    cases x with
    | str z => cases e; cases r; rfl
    | lst l =>
      cases e
      cases r with
      | lst h q => exact .inl ⟨rfl, _, .inl (.inl (R.sub _ _ h))⟩
    | dk ks l =>
      cases e
      cases r with
      | dk h z q => exact .inr (.inr (.inl ⟨rfl, .inl ⟨_, R.sub _ _ h⟩⟩))
    | _ => cases e
  | r i =>
    obtain ⟨a, ha, rfl⟩ := r
    have e : (match st[i]? with | some (.lst _) => some "list" | some (.dk _ _) => some "dict" | _ => none) = some T := e
    split at e
    · rename_i l el
      cases e
      obtain ⟨b, hb, ⟨vs, h1, h2⟩, _⟩ := R.at el
      cases Option.some.inj (ha.symm.trans hb)
      exact .inl ⟨rfl, vs, .inl (.inl h1)⟩
    · rename_i ks l el
      cases e
      obtain ⟨b, hb, ⟨vs, h1, z, h2⟩, _⟩ := R.at el
      cases Option.some.inj (ha.symm.trans hb)
      exact .inr (.inr (.inl ⟨rfl, .inl ⟨_, h1⟩⟩))
    · cases e
def VMt (K : PySem.W.Frag) (cl : Cls) (f : W → List W → List Cell → Res W) (r : V → List V → Hp → VK → Prop) : Prop :=
  ∀ E0 ρ G st H w v ws vs Q Z, (bs K cl E0).Rel ρ G st H → RW K cl ρ G w v → RWs K cl ρ G ws vs → Aft (bs K cl E0) (bs K cl E0).RW ρ G (f w ws st) Q Z → r v vs H Q
def mBm (T : String) (f : W → List W → List Cell → Res W) (o : EM) (a : AM) : EM := fun σ st => (o σ st).bind fun w st1 => if tyW st1 w = some T then (a σ st1).bind fun ws st2 => f w ws st2 else .no
section
variable {Ty id : String} {name : Str} {r : V → List V → Hp → VK → Prop} {f : W → List W → List Cell → Res W} {o : EM} {a : AM} {eo e : Expr} {es : List Expr} {apos cpos : Pos}
theorem se_bm0 (g : GX K X) (pa : PlainAttrs Ty) (slot : Slot Ty name id) (hty : typeOf (.builtin id) = pure (.type "method_descriptor")) (hm : MtR X id r) (hf : VMt K cl f r) (ho : SE K cl X Wx o eo)
    (hbase : attributeBase eo name X.env (eval eo X.env) = eval eo X.env := by rfl) (hline : (apos.endLine == cpos.line) = true := by rfl) :
    SE K cl X Wx (mBm Ty f o mNil) (.Call (.Attribute eo name apos) [] [] cpos) := by
  obtain ⟨hK, _⟩ := g
  subst hK
  refine ⟨fun E0 ρ G σ st τ H Q R S h => T.of (pe_bm0 pa slot hty hm T.pe hbase hline) ?_⟩
  refine ho.run E0 ρ G σ st τ H _ R S (Aft.seq h fun w st1 ρ1 G1 H1 v e1 p1 s1 R1 u1 h1 => ?_)
  split at h1
  case isFalse => exact h1.elim
  rename_i et
  exact ⟨tyW_ok R1 u1 et, hf E0 ρ1 G1 st1 H1 w v [] [] _ _ R1 u1 .nil h1⟩
end
theorem cell_at {i : Nat} {l : List W} {v : V} (R : (bs K cl E0).Rel ρ G st H) (r : RW K cl ρ G (.r i) v) (e : st[i]? = some (.lst l)) : ∃ a vs, v = .ref a ∧ ρ[i]? = some a ∧ H a = some (.lst vs) ∧ RWs K cl ρ G l vs := by
  obtain ⟨a, ha, rfl⟩ := r
  obtain ⟨b, hb, ⟨vs, h1, h2⟩, _⟩ := R.at e
  cases Option.some.inj (ha.symm.trans hb)
  exact ⟨a, vs, rfl, ha, h1, h2⟩
theorem Aft.wrote {i : Nat} {l l2 : List W} {a : Addr} {vs2 : List V} {Q : VK} {Z : ZX} (h : Aft (bs K cl E0) (bs K cl E0).RW ρ G (.ok (.p .non) (st.set i (.lst l2))) Q Z) (R : (bs K cl E0).Rel ρ G st H) (e : st[i]? = some (.lst l)) (ha : ρ[i]? = some a) (r : RWs K cl ρ G l2 vs2) : Q .non (upd H a (.lst vs2)) :=
  h.here (Rel.write (o := .lst vs2) R e (fun z => by cases z) (fun z => by cases z) ha ⟨vs2, upd_same, r⟩) RP.non
def vAppend (w : W) (ws : List W) (st : List Cell) : Res W := match w, ws with
  | .r i, [x] => match st[i]? with
    | some (.lst l) => if l.length < LIM then .ok (.p .non) (st.set i (.lst (l ++ [x]))) else .no
    | _ => .no
  | _, _ => .no
def vInsert (w : W) (ws : List W) (st : List Cell) : Res W := match w, ws with
  | .r i, [.p (.int k), x] => match st[i]? with
    | some (.lst l) => if l.length < LIM ∧ 0 ≤ k ∧ k ≤ LIM then .ok (.p .non) (st.set i (.lst (l.take k.toNat ++ [x] ++ l.drop k.toNat))) else .no
    | _ => .no
  | _, _ => .no
def vClear (w : W) (ws : List W) (st : List Cell) : Res W := match w, ws with
  | .r i, [] => match st[i]? with
    | some (.lst l) => .ok (.p .non) (st.set i (.lst []))
    | _ => .no
  | .p (.lst _), [] => .no
  | _, _ => .no
theorem vClear_ok : VMt K cl vClear rClear := by
  intro E0 ρ G st H w v ws vs Q Z R r rs h
  unfold vClear at h
  split at h
  · rename_i i
    cases rs
    split at h
    · rename_i l el
      obtain ⟨a, us, rfl, ha, h1, h2⟩ := cell_at R r el
      exact ⟨a, us, rfl, rfl, h1, h.wrote R el ha .nil⟩
    · exact h.elim
  · exact h.elim
  · exact h.elim
def sSetIx (o ix m : EM) : SMm := fun σ st => (m σ st).to σ fun x st1 => (o σ st1).to σ fun w st2 => (ix σ st2).to σ fun k st3 => match w, k with
  | .r i, .p (.int n) => match st3[i]? with
    | some (.lst l) => match L2.ixN l.length n with
      | some j => .ok .nx σ (st3.set i (.lst (l.set j x)))
      | none => .no
    | _ => .no
  | _, _ => .no
theorem ss_setIx {o ix m : EM} {eo ei e : Expr} {pos pos' : Pos} (g : GX K X) (ho : SE K cl X Wx o eo) (hi : SE K cl X Wx ix ei) (h : SE K cl X Wx m e)
    (ha : ∀ v, PySem.assign (.Subscript eo ei pos') X.env v = (do
      let ov ← holding [v] (eval eo X.env)
      let iv ← holding [v, ov] (eval ei X.env)
      standAt pos'
      holding [v, ov, iv] (setItem ov iv v)
      release [v, ov, iv] []) := by intro _; rfl)
    (hs : swapsWithSole [.Subscript eo ei pos'] e pos.line X.env = pure false := by rfl) (hw : swappedStores [.Subscript eo ei pos'] e X.env = pure none := by rfl) (h1 : (assignEach [.Subscript eo ei pos'] X.env).map (·.2) = [PySem.assign (.Subscript eo ei pos') X.env] := by rfl) :
    SS K cl X Wx (sSetIx o ix m) (.Assign [.Subscript eo ei pos'] e pos) := by
  refine ⟨fun E0 ρ G σ st τ H D R S q => TS'.of (ps_asg T.pe (pg_sub T.pe T.pe set_list ha) hs hw h1) ?_⟩
  refine h.run E0 ρ G σ st τ H _ R S (AftS.seq S q fun x st1 ρ1 G1 H1 v e1 p1 s1 R1 u1 h1 => ?_)
  have S1 := RS.mono p1 s1 S
  refine ho.run E0 ρ1 G1 σ st1 τ H1 _ R1 S1 (AftS.seq S1 h1 fun w st2 ρ2 G2 H2 ov e2 p2 s2 R2 u2 h2 => ?_)
  have S2 := RS.mono p2 s2 S1
  refine hi.run E0 ρ2 G2 σ st2 τ H2 _ R2 S2 (AftS.seq S2 h2 fun k st3 ρ3 G3 H3 iv e3 p3 s3 R3 u3 h3 => ?_)
  split at h3
  · rename_i i n
    split at h3
    · rename_i l el
      split at h3
      · rename_i j ej
        obtain ⟨a, us, rfl, ha, g1, g2⟩ := cell_at R3 (RW.mono p3 s3 u2) el
        cases u3
        refine ⟨a, us, n, j, rfl, rfl, g1, by rw [← g2.length]; exact ej, ?_⟩
        exact AftS.nx h3 (Rel.write (o := .lst (us.set j v)) R3 el (fun z => by cases z) (fun z => by cases z) ha ⟨_, upd_same, RWs.set (RW.mono (p2.trans p3) (s2.trans s3) u1) j g2⟩) (RS.mono p3 s3 S2)
      · exact h3.elim
    · exact h3.elim
  · exact h3.elim
theorem putF_zip : ∀ {ns : List Str} {vs : List V} {i : Nat} {fn : Str} {v : V}, ns.Nodup → ns[i]? = some fn → i ≤ vs.length → vs.length ≤ ns.length → putF fn v (ns.zip vs) = ns.zip (if i < vs.length then vs.set i v else vs ++ [v])
  | [], _, _, _, _, _, h, _, _ => by simp at h
  | n :: ns, [], i, fn, v, nd, h, hi, _ => by
    have hi : i = 0 := by simpa using hi
    subst hi
    simp at h
    subst h
    simp [putF]
  | n :: ns, u :: vs, 0, fn, v, nd, h, hi, hl => by
    simp at h
    subst h
    simp [putF]
  | n :: ns, u :: vs, i + 1, fn, v, nd, h, hi, hl => by
    have h : ns[i]? = some fn := by simpa using h
    have ne : n ≠ fn := fun e => (List.nodup_cons.mp nd).1 (by rw [e]; exact List.mem_of_getElem? h)
    have ih := putF_zip (v := v) (List.nodup_cons.mp nd).2 h (by simpa using hi) (by simpa using hl)
    rw [List.zip_cons_cons]
    unfold putF
    rw [if_neg ne, ih]
    by_cases hc : i < vs.length
    · rw [if_pos hc, if_pos (by simpa using hc)]; rfl
    · rw [if_neg hc, if_neg (by simpa using hc)]; rfl
def sSetF (cs : List (Nat × Nat)) (o m : EM) : SMm := fun σ st => (m σ st).to σ fun x st1 => (o σ st1).to σ fun w st2 => match w with
  | .r j => match st2[j]? with
    | some (.ins c l) => match cs.lookup c with
      | some i => if i ≤ l.length then .ok .nx σ (st2.set j (.ins c (if i < l.length then l.set i x else l ++ [x]))) else .no
      | none => .no
    | _ => .no
  | _ => .no
theorem ss_setF {cs : List (Nat × Nat)} {o m : EM} {eo e : Expr} {fn : Str} {pos pos' : Pos} (g : GX K X) (hf : ∀ q ∈ cs, FldAt K cl fn q.1 q.2) (hsm : ∀ (c : Nat) (C : Addr) (ns : List Str), cl[c]? = some (C, ns) → ns.length < 1000) (ho : SE K cl X Wx o eo) (h : SE K cl X Wx m e) (hs : swapsWith e (some (.Attribute eo fn pos')) pos.line X.env = pure false) :
    SS K cl X Wx (sSetF cs o m) (.Assign [.Attribute eo fn pos'] e pos) := by
  obtain ⟨hK, _⟩ := g
  subst hK
  refine ⟨fun E0 ρ G σ st τ H D R S q => TS'.of (ps_fld T.pe T.pe hs) ?_⟩
  refine h.run E0 ρ G σ st τ H _ R S (AftS.seq S q fun x st1 ρ1 G1 H1 v e1 p1 s1 R1 u1 h1 => ?_)
  have S1 := RS.mono p1 s1 S
  refine ho.run E0 ρ1 G1 σ st1 τ H1 _ R1 S1 (AftS.seq S1 h1 fun w st2 ρ2 G2 H2 ov e2 p2 s2 R2 u2 h2 => ?_)
  split at h2
  · rename_i j
    obtain ⟨b, hb, rfl⟩ := u2
    split at h2
    · rename_i c l el
      split at h2
      · rename_i i ei
        split at h2
        · rename_i hi
          obtain ⟨C, ns, k1, k2, k3, k4, k5⟩ := (hf (c, i) (lookup_mem ei)).ex
          obtain ⟨b2, hb2, ⟨C', dx, ns', vs, g1, g2, z, q2⟩, _⟩ := R2.at el
          cases Option.some.inj (hb.symm.trans hb2)
          rw [k1] at g1; cases g1
          have il : i < ns.length := (List.getElem?_eq_some_iff.mp k3).1
          have hsz := hsm c C ns k1
          refine ⟨b, C, dx, _, rfl, g2, k4, k5, by rw [List.length_zip]; omega, ?_⟩
          rw [putF_zip k2 k3 (by rw [← q2.length]; exact hi) z]
          have ll := q2.length
          refine AftS.nx h2 (Rel.write (o := .ins C dx (ns.zip (if i < vs.length then vs.set i v else vs ++ [v]))) R2 el (fun z => by cases z) (fun z => by cases z) hb ⟨C, dx, ns, _, k1, upd_same, ?_, ?_⟩) (RS.mono p2 s2 S1)
          · split
            · rw [List.length_set]; exact z
            · rw [List.length_append, List.length_singleton]; omega
          · rw [← ll]
            split
            · exact RWs.set (RW.mono p2 s2 u1) i q2
            · exact q2.append (.cons (RW.mono p2 s2 u1) .nil)
        · exact h2.elim
      · exact h2.elim
    · exact h2.elim
  · exact h2.elim
def mFmt (a : EM) : EM := fun σ st => (a σ st).bind fun w st1 => match w with
  | .p (.str y) => if y.length ≤ LIM then .ok (.p (.str y)) st1 else .no
  | .p (.int i) => if i.natAbs.log2 < 1920 then .ok (.p (.str (toString i))) st1 else .no
  | _ => .no
theorem se_fmt {a : EM} {e : Expr} {pos : Pos} (ha : SE K cl X Wx a e) : SE K cl X Wx (mFmt a) (.FormattedValue e (-1) none pos) := by
  refine ⟨fun E0 ρ G σ st τ H Q R S h => T.of (pe_fmt T.pe) ?_⟩
  refine ha.run E0 ρ G σ st τ H _ R S (Aft.seq h fun w st1 ρ1 G1 H1 v e1 p1 s1 R1 u1 h1 => ?_)
  split at h1
  · cases u1
    split at h1
    · rename_i hl
      exact .inl ⟨_, rfl, lim_le hl, h1.here R1 (RP.str _)⟩
    · exact h1.elim
  · cases u1
    split at h1
    · rename_i hl
      exact .inr ⟨_, rfl, hl, h1.here R1 (RP.str _)⟩
    · exact h1.elim
  · exact h1.elim
def jsF : List EM → Str → EM
  | [], acc, _, st => .ok (.p (.str acc)) st
  | m :: ms, acc, σ, st => (m σ st).bind fun w st1 => match w with
    | .p (.str y) => if (acc ++ y).length ≤ LIM then jsF ms (acc ++ y) σ st1 else .no
    | _ => .no
theorem SJ.pj {ms : List EM} {es : List Expr} (h : SJ K cl X Wx ms es) : PJ X es (es.map (T X)) := by
  induction h with
  | nil => exact .nil
  | cons h r ih => exact .cons T.pe ih
theorem SJ.js {ms : List EM} {es : List Expr} (h : SJ K cl X Wx ms es) : ∀ {acc : Str} {E0 : En} {ρ : List Addr} {G : Hp} {st : List Cell} {H : Hp} {Q : VK}, (bs K cl E0).Rel ρ G st H → RS K cl ρ G σ τ →
    Aft (bs K cl E0) (bs K cl E0).RW ρ G (jsF ms acc σ st) Q (fun c d H' => Wx c d τ H') → tJs (es.map (T X)) acc τ H fun out H1 => Q (.str out) H1 := by
  induction h with
  | nil => intro acc E0 ρ G st H Q R S q; exact Aft.here (b := V.str acc) q R (RP.str _)
  | cons h r ih =>
    intro acc E0 ρ G st H Q R S q
    refine h.run E0 ρ G σ st τ H _ R S (Aft.seq q fun w st1 ρ1 G1 H1 v e1 p1 s1 R1 u1 h1 => ?_)
    split at h1
    · cases u1
      split at h1
      · rename_i hl
        exact ⟨_, rfl, lim_le hl, ih R1 (S.mono p1 s1) h1⟩
      · exact h1.elim
    · exact h1.elim
theorem se_js {m1 m2 : EM} {ms : List EM} {e1 e2 : Expr} {es : List Expr} {pos : Pos} (h : SJ K cl X Wx (m1 :: m2 :: ms) (e1 :: e2 :: es)) : SE K cl X Wx (jsF (m1 :: m2 :: ms) Str.empty) (.JoinedStr (e1 :: e2 :: es) pos) :=
  ⟨fun E0 ρ G σ st τ H Q R S q => T.of (pe_joined h.pj) (h.js R S q)⟩
end
end Y
namespace Y
open PySem PySem.Spec PyProof.Rows L2
section
variable {K : PySem.W.Frag} {cl : Cls} {X : Cx} {Wx : WX} {E0 : En} {ρ ρ' : List Addr} {G G' : Hp} {σ : Sg} {τ : L2.St} {st : List Cell} {H : Hp} {D : Ends}
def tyName (st : List Cell) : W → Option String
  | .p .non => some "NoneType"
  | .p (.bl _) => some "bool"
  | .p (.int _) => some "int"
  | .p (.str _) => some "str"
  | .p (.tup _) => some "tuple"
  | .p (.lst _) => some "list"
  | .p (.dk _ _) => some "dict"
  | .r i => match st[i]? with
    | some (.lst _) => some "list"
    | some (.dk _ _) => some "dict"
    | _ => none
  | _ => none
def tyNames : List String := ["NoneType", "bool", "int", "str", "tuple", "list", "dict"]
def kitTab (t T : String) : Bool := decide (t = T) || (decide (t = "bool") && decide (T = "int"))
theorem kit_ok (K : PySem.W.Frag) {t T : String} (ht : t ∈ tyNames) (hT : T ∈ tyNames) : PySem.W.kitOne K (.type t) (.type T) = some (kitTab t T) := by
  simp only [tyNames, List.mem_cons, List.not_mem_nil, or_false] at ht hT
  rcases ht with rfl | rfl | rfl | rfl | rfl | rfl | rfl <;> rcases hT with rfl | rfl | rfl | rfl | rfl | rfl | rfl <;> kernel_rfl
theorem tyx_tup {a : Addr} {vs : List V} (h : SqT K H a vs) : TyX K H (.ref a) (.type "tuple") := by
  rcases h with (h | ⟨o, h⟩) | ⟨o, its, n, h1, h2, _⟩
  · exact .base (.tup h)
  · exact .fTuple h
  · exact .kTuple h1 h2
theorem tyName_ok {w : W} {v : V} {t : String} (R : (bs K cl E0).Rel ρ G st H) (r : RW K cl ρ G w v) (e : tyName st w = some t) : TyX K H v (.type t) ∧ t ∈ tyNames := by
  cases w with
  | p x =>
    cases r with
    | non => cases e; exact ⟨.base .non, by decide⟩
    | bl b => cases e; exact ⟨.base (.bl b), by decide⟩
    | int i => cases e; exact ⟨.base (.int i), by decide⟩
    | str z => cases e; exact ⟨.base (.str z), by decide⟩
    | tup h q => cases e; exact ⟨tyx_tup (R.sub.sqT h), by decide⟩
    | lst h q => cases e; exact ⟨.base (.lst (R.sub _ _ h)), by decide⟩
    | dk h z q => cases e; exact ⟨.base (.dK (R.sub _ _ h)), by decide⟩
    | scr h => cases e
    | obj c h z q => cases e
    | exn c x h d z q => cases e
    | lam _ _ _ _ _ => cases e
    | cls _ => cases e
    | fd _ _ _ => cases e
    | fn _ _ _ _ _ _ _ => cases e
  | r i =>
    obtain ⟨a, ha, rfl⟩ := r
    have e : (match st[i]? with | some (.lst _) => some "list" | some (.dk _ _) => some "dict" | _ => none) = some t := e
    split at e
    · rename_i l el
      cases e
      obtain ⟨b, hb, ⟨vs, h1, h2⟩, _⟩ := R.at el
      cases Option.some.inj (ha.symm.trans hb)
      exact ⟨.base (.lst h1), by decide⟩
    · rename_i ks l el
      cases e
      obtain ⟨b, hb, ⟨vs, h1, z, h2⟩, _⟩ := R.at el
      cases Option.some.inj (ha.symm.trans hb)
      exact ⟨.base (.dK h1), by decide⟩
    · cases e
def mIsi (T : String) (a : EM) : EM := fun σ st => (a σ st).bind fun w st1 => match tyName st1 w with
  | some t => .ok (.p (.bl (kitTab t T))) st1
  | none => .no
theorem se_isi {Ty : String} {x : Str} {a : EM} {e : Expr} {p q pos : Pos} (g : GX K X) (hT : Ty ∈ tyNames) (hg : Gl X "isinstance") (hm : X.mg "isinstance" = none) (hgx : Gl X x) (hmx : X.mg x = none) (hv : bootBuiltins x = some (.type Ty)) (hn : x ≠ "__name__") (hdb : (x == ("__debug__" : Str)) = false)
    (ha : SE K cl X Wx a e) (hs : starEach [e, .Name x q] X.env = (false, eval e X.env) :: starEach [.Name x q] X.env := by rfl) (hs2 : starEach [.Name x q] X.env = (false, eval (.Name x q) X.env) :: starEach [] X.env := by rfl) (hpl : (backTo pos (starEach [.Name x q] X.env)).any (·.1) = false := by rfl) :
    SE K cl X Wx (mIsi Ty a) (.Call (.Name "isinstance" p) [e, .Name x q] [] pos) := by
  obtain ⟨hK, _⟩ := g
  subst hK
  refine ⟨fun E0 ρ G σ st τ H Q R S h => T.of (pe_callB call_isi hg hm (by decide +kernel) (pa_cons T.pe (pa_cons (pe_bltn (v := .ty Ty) hgx hmx hv rfl hn hdb) pa_nil hs2) hs) (by decide +kernel) (by decide +kernel) hs hpl) ?_⟩
  refine ha.run E0 ρ G σ st τ H _ R S (Aft.seq h fun w st1 ρ1 G1 H1 v e1 p1 s1 R1 u1 h1 => ?_)
  split at h1
  · rename_i t et
    obtain ⟨t1, t2⟩ := tyName_ok R1 u1 et
    exact ⟨v, .ty Ty, _, _, kitTab t Ty, rfl, .ty Ty, t1, kit_ok _ t2 hT, h1.here R1 (RP.bl _)⟩
  · exact h1.elim
def sMatch (m : EM) (cs : List (Str × SMm)) : SMm := fun σ st => (m σ st).to σ fun w st1 => match w with
  | .p (.str y) => mtF cs y σ st1
  | _ => .no
def sStar (i j : Nat) (m : EM) : SMm := fun σ st => (m σ st).to σ fun w st1 => match w with
  | .p (.tup (x :: l)) => if l.length < 16384 then .ok .nx ((σ.set i (some (.p x))).set j (some (.p (.lst l)))) st1 else .no
  | _ => .no
end
end Y
namespace Y
open PySem PySem.Spec PyProof.Rows L2
def ItzZ (K : PySem.W.Frag) (k1 k2 : ZK) : It :=
  ⟨fun i H => ∃ n1 n2, k1.len K H n1 ∧ k2.len K H n2 ∧ i < n1 ∧ i < n2,
    fun i H v H' => ∃ T x y, v = .ref T ∧ H T = none ∧ H' = upd H T (.tup [x, y]) ∧ k1.sure K H i x ∧ k2.sure K H i y,
    fun i H => ∃ n1 n2, k1.len K H n1 ∧ k2.len K H n2 ∧ i ≤ n1 ∧ i ≤ n2 ∧ (i = n1 ∨ i = n2)⟩
section
variable {X : Cx} {pins : List (Addr × Obj)} {τ : L2.St} {H : Hp} {s : Shared}
theorem ZK.draws {kd : ZK} {t : Tok} {it : Addr} {n i : Nat} {A : Around} (hh : A.handled = none) (I : Inv X pins τ H s) (hl : kd.len X.K H n) (ho : kd.off it) (hi : kd.itr t s.heap it i) :
    ∃ (fp : List Addr) (P : Nat → Value → Prop) (St : Nat → Heap → Prop), Draws X.prog X.w A it fp n P St ∧ St i s.heap ∧ it ∈ fp ∧ (∀ b ∈ fp, b < s.heap.objs.size) ∧ (∀ b ∈ fp, b ≠ it → kd.val = .ref b) ∧ (∀ j h, St j h → kd.itr t h it j) ∧ ∀ u, i < n → P i u → ∃ v, RelV v u ∧ kd.sure X.K H i v := by
  cases kd with
  | L a =>
    obtain ⟨xs, hs, rfl⟩ := hl
    obtain ⟨its, rv, p, _⟩ := I.list hs
    have sz : its.toArray.size = xs.length := by rw [List.size_toArray]; exact rv.length.symm
    obtain ⟨oi, hoi, _⟩ := id hi
    obtain ⟨oa, hoa, _⟩ := id p.isList
    have D := Draws.list (prog := X.prog) (w := X.w) hh it a ho its.toArray
    rw [sz] at D
    refine ⟨_, _, _, D, ⟨hi, p.isList⟩, by simp, fun b hb => ?_, fun b hb hne => ?_, fun j h st => st.1, fun u hlt hu => ?_⟩
    · rcases List.mem_cons.mp hb with rfl | hb
      · exact Heap.lt_size hoi
      · rw [List.mem_singleton.mp hb]; exact Heap.lt_size hoa
    · rcases List.mem_cons.mp hb with e | hb
      · exact absurd e hne
      · rw [List.mem_singleton.mp hb]; rfl
    · have hu' : its[i]? = some u := by simpa using hu
      obtain ⟨v, hv⟩ : ∃ v, xs[i]? = some v := ⟨xs[i], List.getElem?_eq_getElem hlt⟩
      obtain ⟨u2, e2, r2⟩ := rv.get hv
      rw [hu'] at e2; cases e2
      exact ⟨v, r2, fun ys hy => by rw [I.list_inj hy hs]; exact hv⟩
  | T a =>
    obtain ⟨xs, hs, rfl⟩ := hl
    obtain ⟨its, rv, p, _⟩ := I.tuple hs
    have p' : s.heap.IsTuple a its.toArray := p
    have sz : its.toArray.size = xs.length := by rw [List.size_toArray]; exact rv.length.symm
    obtain ⟨oi, hoi, _⟩ := id hi
    obtain ⟨oa, hoa, _⟩ := id p'
    have D := Draws.tuple (prog := X.prog) (w := X.w) hh it a ho its.toArray
    rw [sz] at D
    refine ⟨_, _, _, D, ⟨hi, p'⟩, by simp, fun b hb => ?_, fun b hb hne => ?_, fun j h st => st.1, fun u hlt hu => ?_⟩
    · rcases List.mem_cons.mp hb with rfl | hb
      · exact Heap.lt_size hoi
      · rw [List.mem_singleton.mp hb]; exact Heap.lt_size hoa
    · rcases List.mem_cons.mp hb with e | hb
      · exact absurd e hne
      · rw [List.mem_singleton.mp hb]; rfl
    · have hu' : its[i]? = some u := by simpa using hu
      obtain ⟨v, hv⟩ : ∃ v, xs[i]? = some v := ⟨xs[i], List.getElem?_eq_getElem hlt⟩
      obtain ⟨u2, e2, r2⟩ := rv.get hv
      rw [hu'] at e2; cases e2
      exact ⟨v, r2, fun ys hy => by rw [I.tuple_inj hy hs]; exact hv⟩
  | S x =>
    have hl : x.cps.size = n := hl
    subst hl
    obtain ⟨oi, hoi, _⟩ := id hi
    refine ⟨_, _, _, Draws.text (prog := X.prog) (w := X.w) hh it x t, hi, by simp, fun b hb => ?_, fun b hb hne => ?_, fun j h st => st, fun u hlt hu => ?_⟩
    · rw [List.mem_singleton.mp hb]; exact Heap.lt_size hoi
    · exact absurd (List.mem_singleton.mp hb) hne
    · obtain ⟨c, t', hc, rfl⟩ := hu
      exact ⟨.str ⟨#[c]⟩, ⟨t', rfl⟩, c, hc, rfl⟩
theorem ZApart.off1 {z TI TO i1 i2 : Addr} {k1 k2 : ZK} (D : ZApart z TI TO i1 i2 k1 k2) : k1.off i1 := by
  cases k1 with
  | L a => exact (D.o1 a rfl).2.2.1
  | T a => exact (D.o1 a rfl).2.2.1
  | S x => trivial
theorem ZApart.off2 {z TI TO i1 i2 : Addr} {k1 k2 : ZK} (D : ZApart z TI TO i1 i2 k1 k2) : k2.off i2 := by
  cases k2 with
  | L a => exact (D.o2 a rfl).2.2.2
  | T a => exact (D.o2 a rfl).2.2.2
  | S x => trivial
theorem turn_zz {P : Program} {w : World} {K : PySem.W.Frag} {elts : List Expr} {kk : Nat} {tpos : Pos} {k1 k2 : ZK} {t1 t2 : Tok} {z TI TO i1 i2 : Addr} (D : ZApart z TI TO i1 i2 k1 k2) :
    Turn P w K (.Tuple elts kk tpos) (ItzZ K k1 k2) [z, TI, TO, i1, i2] z (fun i h => IsZip h z TI TO .none ∧ IsTupOf2 h TI (.ref i1) (.ref i2) ∧ (∃ x y, IsTupOf2 h TO x y) ∧ k1.itr t1 h i1 i ∧ k2.itr t2 h i2 i) where
  mem := by simp
  obj := fun i h st c hc => by
    obtain ⟨hz, hTI, ⟨x, y, hTO⟩, g1, g2⟩ := st
    have e' : c = z ∨ c = TI ∨ c = TO ∨ c = i1 ∨ c = i2 := by simpa using hc
    rcases e' with q | q | q | q | q
    · rw [q]; exact ⟨_, hz, fun v q => nomatch q⟩
    · rw [q]; exact ⟨_, hTI, fun v q => nomatch q⟩
    · rw [q]; exact ⟨_, hTO, fun v q => nomatch q⟩
    · rw [q]; exact ZK.itr_rec g1
    · rw [q]; exact ZK.itr_rec g2
  keep := fun i h h' st k => by
    obtain ⟨hz, hTI, ⟨x, y, hTO⟩, g1, g2⟩ := st
    exact ⟨k z (by simp) _ hz, k TI (by simp) _ hTI, ⟨x, y, k TO (by simp) _ hTO⟩, ZK.itr_at g1 fun o q => k i1 (by simp) o q, ZK.itr_at g2 fun o q => k i2 (by simp) o q⟩
  item := by
    intro X hP hw hK hc i pins s σ H E I hf st hg
    subst hP hw hK
    obtain ⟨hz, hTI, ⟨x0, y0, hTO⟩, g1, g2⟩ := st
    obtain ⟨n1, n2, l1, l2, b1, b2⟩ := hg
    obtain ⟨fp1, P1, St1, D1, st1, m1, lt1, ot1, it1, pv1⟩ := ZK.draws (A := X.A.in1) (I.ok.hd hc) I l1 D.off1 g1
    obtain ⟨fp2, P2, St2, D2, st2, m2, lt2, ot2, it2, pv2⟩ := ZK.draws (A := X.A.in1) (I.ok.hd hc) I l2 D.off2 g2
    have hzl : z < s.heap.objs.size := Heap.lt_size hz
    refine wpAny_pyNext_zipD2_item (D.sep m1 m2 ot1 ot2) D1 D2 hz hTI hTO st1 st2 b1 b2 fun u1 u2 h' tk p1 p2 z' TO' st1' st2' hT hsz hk => ?_
    obtain ⟨x, rx, sx⟩ := pv1 u1 b1 p1
    obtain ⟨y, ry, sy⟩ := pv2 u2 b2 p2
    refine ⟨_, rfl, wpAny_letOwnedTupleGo_zip (s := { s with heap := h', toks := tk }) z' fun h'' z'' sb => ?_⟩
    have hT2 : h''.get? s.heap.objs.size = some { cls := .type "tuple", data := .seq #[u1, u2] } := (sb.2 _ (Nat.ne_of_gt hzl)).trans hT
    have new : ObjOk X.prog X.w (upd H s.heap.objs.size (.tup [x, y])) h'' s.heap.objs.size (.tup [x, y]) :=
      ⟨by show 2 ≤ sizeLine; decide, [u1, u2], .cons rx (.cons ry .nil), ⟨_, hT2, rfl, _, rfl⟩⟩
    have I1 : Inv X pins σ (upd H s.heap.objs.size (.tup [x, y])) { s with heap := h'', toks := tk } :=
      I.turnedNew (ch := [z, TI, TO, i1, i2]) (fun c o hb q => (sb.2 c (fun q' => hb (by simp [q']))).trans (hk c o (fun q' => hb (by simp [q'])) (fun q' => hb (by simp [q'])) (fun q' => hb (by simp [q'])) (fun q' => hb (by simp [q'])) q)) hf (Nat.le_refl _) new
    refine ⟨.ref s.heap.objs.size, _, I1, rfl, ⟨_, x, y, rfl, I.hok.fresh (Nat.le_refl _), rfl, sx, sy⟩, ⟨z'', ?_, ⟨u1, u2, ?_⟩, ?_, ?_⟩, fun c hcm => ?_⟩
    · exact (sb.2 _ D.TIz).trans (hk _ _ D.TIz D.TITO D.TIi1 D.TIi2 hTI)
    · exact (sb.2 _ D.TOz).trans TO'
    · exact ZK.itr_at (it1 _ _ st1') fun o q => (sb.2 _ D.i1z).trans q
    · exact ZK.itr_at (it2 _ _ st2') fun o q => (sb.2 _ D.i2z).trans q
    · have hlt : c < s.heap.objs.size := by
        have e' : c = z ∨ c = TI ∨ c = TO ∨ c = i1 ∨ c = i2 := by simpa using hcm
        rcases e' with q | q | q | q | q
        · rw [q]; exact hzl
        · rw [q]; exact Heap.lt_size hTI
        · rw [q]; exact Heap.lt_size hTO
        · rw [q]; obtain ⟨_, e1, _⟩ := ZK.itr_rec g1; exact Heap.lt_size e1
        · rw [q]; obtain ⟨_, e2, _⟩ := ZK.itr_rec g2; exact Heap.lt_size e2
      rw [upd_ne (Nat.ne_of_lt hlt)]
      exact (hf c hcm).1
  done := by
    intro X hP hw hK hc i pins s σ H E I hf st hg
    subst hP hw hK
    obtain ⟨hz, hTI, ⟨x0, y0, hTO⟩, g1, g2⟩ := st
    obtain ⟨n1, n2, l1, l2, b1, b2, hend⟩ := hg
    obtain ⟨fp1, P1, St1, D1, st1, m1, lt1, ot1, it1, pv1⟩ := ZK.draws (A := X.A.in1) (I.ok.hd hc) I l1 D.off1 g1
    obtain ⟨fp2, P2, St2, D2, st2, m2, lt2, ot2, it2, pv2⟩ := ZK.draws (A := X.A.in1) (I.ok.hd hc) I l2 D.off2 g2
    exact wpAny_pyNext_zipD2_end (D.sep m1 m2 ot1 ot2) D1 D2 hz hTI hTO st1 st2 b1 b2 hend fun h' tk hk => ⟨rfl, I.turnedL (t' := tk) (ch := [z, TI, TO, i1, i2]) (fun c o hb q =>
      hk c o (fun q' => hb (by simp [q'])) (fun q' => hb (by simp [q'])) (fun q' => hb (by simp [q'])) (fun q' => hb (by simp [q'])) q) hf⟩
  self := fun A i s Q E st h => wpAny_pyIter_zip st.1 h
theorem ZK.begins {kd : ZK} {n : Nat} {u : Value} (I : Inv X pins τ H s) (hl : kd.len X.K H n) (r : RelV kd.val u) : ∃ (o : Obj) (t : Tok) (H1 : Heap → Prop), Begins u o H1 ∧ H1 s.heap ∧ (∀ (h : Heap) (it : Addr), h.get? it = some o → kd.itr t h it 0) ∧ ∀ a, kd.val = .ref a → a < s.heap.objs.size := by
  cases kd with
  | L a =>
    obtain ⟨xs, hs, _⟩ := hl
    obtain ⟨its, rv, p, _⟩ := I.list hs
    cases r
    obtain ⟨oa, hoa, _⟩ := id p.isList
    exact ⟨_, 0, _, begins_list a its.toArray, p.isList, fun h it e => ⟨_, e, rfl, rfl⟩, fun b e => by cases e; exact Heap.lt_size hoa⟩
  | T a =>
    obtain ⟨xs, hs, _⟩ := hl
    obtain ⟨its, rv, p, _⟩ := I.tuple hs
    have p' : s.heap.IsTuple a its.toArray := p
    cases r
    obtain ⟨oa, hoa, _⟩ := id p'
    exact ⟨_, 0, _, begins_tuple a its.toArray, p', fun h it e => ⟨_, e, rfl, rfl⟩, fun b e => by cases e; exact Heap.lt_size hoa⟩
  | S x =>
    obtain ⟨t, rfl⟩ := r
    exact ⟨_, t, _, begins_text x t, trivial, fun h it e => ⟨_, e, rfl, rfl⟩, fun b e => by cases e⟩
def iZz (K : PySem.W.Frag) (ta : TA) : TI := fun σ H R => ta σ H fun vs H1 => ∃ k1 k2 n1 n2, vs = [ZK.val k1, ZK.val k2] ∧ k1.len K H1 n1 ∧ k2.len K H1 n2 ∧ R (ItzZ K k1 k2) H1
theorem apart5 {a n : Nat} (h : a < n) : a ≠ n + 4 ∧ a ≠ n + 3 ∧ a ≠ n ∧ a ≠ n + 1 := by omega
theorem pi_zz {e e2 : Expr} {ta : TA} {p pos tpos : Pos} {elts : List Expr} {kk : Nat} (hg : Gl X "zip") (hm : X.mg "zip" = none) (ha : PA X [e, e2] ta)
    (hs : starEach [e, e2] X.env = (false, eval e X.env) :: starEach [e2] X.env := by rfl) (hpl : (backTo pos (starEach [e2] X.env)).any (·.1) = false := by rfl) :
    PI X (.Tuple elts kk tpos) (.Call (.Name "zip" p) [e, e2] [] pos) (iZz X.K ta) := by
  refine ⟨fun pins s σ H R I h => ?_⟩
  refine Call_ (ld_blt I hg hm PyProof.Rows.boot_zip (PyProof.Rows.callWith_type1 (thn (ha.run pos pins s σ H _ I h) fun us s1 ⟨vs, H1, I1, r1, q1⟩ => ?_) hs hpl))
  obtain ⟨k1, k2, n1, n2, ex, l1, l2, q⟩ := q1
  subst ex
  cases r1 with
  | cons r rr =>
    cases rr with
    | cons r' rr =>
      cases rr
      obtain ⟨o1, t1, G1, B1, b1, f1, lt1⟩ := ZK.begins I1 l1 r
      obtain ⟨o2, t2, G2, B2, b2, f2, lt2⟩ := ZK.begins I1 l2 r'
      refine zip_begins2 B1 B2 b1 b2 fun h' hz hTI hTO h1 h2 hsz hk => wpAny_pyIter_zip hz ?_
      have I2 : Inv X pins σ H1 { s1 with heap := h' } := I1.kept (t' := s1.toks) hk
      have D : ZApart (s1.heap.objs.size + 4) (s1.heap.objs.size + 2) (s1.heap.objs.size + 3) s1.heap.objs.size (s1.heap.objs.size + 1) k1 k2 := by
        refine ⟨?_, ?_, ?_, ?_, ?_, ?_, ?_, ?_, ?_, ?_, fun a e => ?_, fun a e => ?_⟩
        · exact fun x => by have : s1.heap.objs.size + 2 = s1.heap.objs.size + 4 := x; omega
        · exact fun x => by have : s1.heap.objs.size + 3 = s1.heap.objs.size + 4 := x; omega
        · exact fun x => by have : s1.heap.objs.size = s1.heap.objs.size + 4 := x; omega
        · exact fun x => by have : s1.heap.objs.size + 1 = s1.heap.objs.size + 4 := x; omega
        · exact fun x => by have : s1.heap.objs.size + 2 = s1.heap.objs.size + 3 := x; omega
        · exact fun x => by have : s1.heap.objs.size + 2 = s1.heap.objs.size := x; omega
        · exact fun x => by have : s1.heap.objs.size + 2 = s1.heap.objs.size + 1 := x; omega
        · exact fun x => by have : s1.heap.objs.size + 3 = s1.heap.objs.size := x; omega
        · exact fun x => by have : s1.heap.objs.size + 3 = s1.heap.objs.size + 1 := x; omega
        · exact fun x => by have : s1.heap.objs.size = s1.heap.objs.size + 1 := x; omega
        · exact apart5 (lt1 a e)
        · exact apart5 (lt2 a e)
      refine ⟨s1.heap.objs.size + 4, [s1.heap.objs.size + 4, s1.heap.objs.size + 2, s1.heap.objs.size + 3, s1.heap.objs.size, s1.heap.objs.size + 1], _, _, H1, rfl, I2, turn_zz (t1 := t1) (t2 := t2) D, ⟨hz, hTI, ⟨_, _, hTO⟩, f1 _ _ h1, f2 _ _ h2⟩, fun c hcm => ?_, q⟩
      have e' : c = s1.heap.objs.size + 4 ∨ c = s1.heap.objs.size + 2 ∨ c = s1.heap.objs.size + 3 ∨ c = s1.heap.objs.size ∨ c = s1.heap.objs.size + 1 := by simpa using hcm
      have hle : s1.heap.objs.size ≤ c := by
        rcases e' with z | z | z | z | z
        · rw [z]; exact Nat.le_add_right _ _
        · rw [z]; exact Nat.le_add_right _ _
        · rw [z]; exact Nat.le_add_right _ _
        · rw [z]; exact Nat.le_refl _
        · rw [z]; exact Nat.le_add_right _ _
      exact I1.fpOk hle (I1.hok.fresh hle)
end
section
variable {K : PySem.W.Frag} {cl : Cls} {X : Cx} {Wx : WX} {E0 : En} {ρ ρ' : List Addr} {G G' : Hp} {σ : Sg} {τ : L2.St} {st : List Cell} {H : Hp} {D : Ends}
def srcZ (l : List W) : Src := ⟨fun _ i => if i ≤ l.length then some l[i]? else none, l.length⟩
def zItems : W → Option (List P)
  | .p (.lst l) => some l
  | .p (.tup l) => some l
  | .p (.str z) => some (z.cps.toList.map fun c => .str ⟨#[c]⟩)
  | _ => none
def mZipA (a b : EM) : IM := fun σ st => (a σ st).bind fun x st1 => (b σ st1).bind fun y st2 => match zItems x, zItems y with
  | some l, some m => .ok (srcZ (zipL l m)) st2
  | _, _ => .no
theorem zrel {w : W} {v : V} {l : List P} (r : RW K cl ρ G w v) (e : zItems w = some l) : ∃ kd, v = ZK.val kd ∧ ZRel K cl G kd l := by
  cases w with
  | r i => cases e
  | p x =>
    cases x with
    | lst m =>
      cases e
      cases r with
      | lst h q =>
        rename_i a vs
        refine ⟨.L a, rfl, ⟨fun G' H s1 s2 => ⟨vs, .inl (.inl (s2 _ _ (s1 _ _ h))), q.length.symm⟩, fun G' H i x v s1 s2 ex su => ?_⟩⟩
        obtain ⟨u, eu, ru⟩ := q.get ex
        have := su vs (.inl (.inl (s2 _ _ (s1 _ _ h))))
        rw [eu] at this; cases this
        exact ru.mono s1
    | tup m =>
      cases e
      cases r with
      | tup h q =>
        rename_i a vs
        refine ⟨.T a, rfl, ⟨fun G' H s1 s2 => ⟨vs, s2.sqT (s1.sqT h), q.length.symm⟩, fun G' H i x v s1 s2 ex su => ?_⟩⟩
        obtain ⟨u, eu, ru⟩ := q.get ex
        have := su vs (s2.sqT (s1.sqT h))
        rw [eu] at this; cases this
        exact ru.mono s1
    | str z =>
      cases e
      cases r
      refine ⟨.S z, rfl, ⟨fun G' H s1 s2 => by simp [ZK.len], fun G' H i x v s1 s2 ex su => ?_⟩⟩
      obtain ⟨c, hc, rfl⟩ := su
      rw [List.getElem?_map, Array.getElem?_toList, hc] at ex
      cases ex
      exact .str _
    | _ => cases e
theorem zipL_length : ∀ (l m : List P), (zipL l m).length = min l.length m.length
  | [], m => by simp [zipL]
  | x :: l, [] => by simp [zipL]
  | x :: l, y :: m => by
    show (zipL l m).length + 1 = _
    rw [zipL_length l m]; simp
theorem wok_zz {k1 k2 : ZK} {l m : List P} (r1 : ZRel K cl G k1 l) (r2 : ZRel K cl G k2 m) : WOk K cl ρ G (ItzZ K k1 k2) (srcZ (zipL l m)) := by
  intro E0 ρ' G' st H i p s R
  have L1 := r1.len G' H s R.sub
  have L2 := r2.len G' H s R.sub
  have ll := zipL_length l m
  unfold srcZ
  dsimp only
  by_cases hi : i ≤ (zipL l m).length
  · rw [if_pos hi, zipL_get]
    cases e : l[i]? with
    | none =>
      have := List.getElem?_eq_none_iff.mp e
      exact ⟨_, _, L1, L2, by omega, by omega, by omega⟩
    | some x =>
      have h1 : i < l.length := (List.getElem?_eq_some_iff.mp e).1
      cases e2 : m[i]? with
      | none =>
        have := List.getElem?_eq_none_iff.mp e2
        exact ⟨_, _, L1, L2, by omega, by omega, by omega⟩
      | some y =>
        have h2 : i < m.length := (List.getElem?_eq_some_iff.mp e2).1
        refine ⟨⟨_, _, L1, L2, h1, h2⟩, fun w H' yl => ?_⟩
        obtain ⟨T, v, u, rfl, hT, rfl, sv, su⟩ := yl
        have sn := Sub.new (o := .tup [v, u]) (R.gnone hT)
        exact ⟨_, sn, R.froze hT, RP.tup (.inl (.inl upd_same)) (.cons ((r1.at_ G' H i x v s R.sub e sv).mono sn) (.cons ((r2.at_ G' H i y u s R.sub e2 su).mono sn) .nil))⟩
  · rw [if_neg hi]
    trivial
theorem si_zipA {a b : EM} {e e2 : Expr} {p pos tpos : Pos} {elts : List Expr} {kk : Nat} (g : GX K X) (hg : Gl X "zip") (hm : X.mg "zip" = none) (ha : SE K cl X Wx a e) (hb : SE K cl X Wx b e2)
    (hs : starEach [e, e2] X.env = (false, eval e X.env) :: starEach [e2] X.env := by rfl) (hs2 : starEach [e2] X.env = (false, eval e2 X.env) :: starEach [] X.env := by rfl) (hpl : (backTo pos (starEach [e2] X.env)).any (·.1) = false := by rfl) :
    SI K cl X Wx (.Tuple elts kk tpos) (mZipA a b) (.Call (.Name "zip" p) [e, e2] [] pos) := by
  obtain ⟨hK, _⟩ := g
  subst hK
  refine ⟨fun E0 ρ G σ st τ H R Rl S q => TIc.of (pi_zz hg hm (pa_cons T.pe (T.pa1 hs2) hs) hs hpl) ?_⟩
  refine ha.run E0 ρ G σ st τ H _ Rl S (Aft.seq q fun w st1 ρ1 G1 H1 v e1 p1 s1 R1 u1 h1 => ?_)
  refine hb.run E0 ρ1 G1 σ st1 τ H1 _ R1 (S.mono p1 s1) (Aft.seq h1 fun u st2 ρ2 G2 H2 v2 e2 p2 s2 R2 u2 h2 => ?_)
  replace u1 := RW.mono p2 s2 u1
  split at h2
  · rename_i l m el em
    obtain ⟨k1, rfl, z1⟩ := zrel u1 el
    obtain ⟨k2, rfl, z2⟩ := zrel u2 em
    exact ⟨k1, k2, _, _, rfl, z1.len G2 H2 (Sub.refl _) R2.sub, z2.len G2 H2 (Sub.refl _) R2.sub, h2 ρ2 G2 H2 _ (List.prefix_refl _) (Sub.refl _) R2 (wok_zz z1 z2)⟩
  · exact h2.elim
end
end Y
namespace Y
open PySem PySem.Spec PyProof.Rows L2
section
variable {K : PySem.W.Frag} {cl : Cls} {X : Cx} {Wx : WX} {E0 : En} {ρ ρ' : List Addr} {G G' : Hp} {σ : Sg} {τ : L2.St} {st : List Cell} {H : Hp} {D : Ends}
theorem se_gint {x : Str} {i : Int} {pos : Pos} (hg : Gl X x) (hm : ∃ t, X.mg x = some (.int i t)) (hd : (x == ("__debug__" : Str)) = false := by decide +kernel) : SE K cl X Wx (mC (.int i)) (.Name x pos) := by
  obtain ⟨t, e⟩ := hm
  exact se_glob (v := .int i) hg e ⟨t, rfl⟩ (fun G => .int i) hd
def mInT (kvs : List (Str × Str)) (neg : Bool) (a : EM) : EM := fun σ st => (a σ st).bind fun w st1 => match w with
  | .p (.str z) => .ok (.p (.bl (if neg = true then !(kvs.lookup z).isSome else (kvs.lookup z).isSome))) st1
  | _ => .no
def mGetT (kvs : List (Str × Str)) (a : EM) : EM := fun σ st => (a σ st).bind fun w st1 => match w with
  | .p (.str z) => match kvs.lookup z with
    | some y => .ok (.p (.str y)) st1
    | none => .no
  | _ => .no
def dkGet {α : Type} (ks : List Key) (l : List α) (k : Key) : Option α := ((ks.zip l).find? fun q => decide (q.1 = k)).map (·.2)
theorem RPs.dkGet {l : List P} {vs : List V} (q : RPs K cl G l vs) : ∀ {ks : List Key} {k : Key} {x : P}, Y.dkGet ks l k = some x → ∃ v, valV (ks.zip vs) k = some v ∧ RP K cl G x v := by
  induction l generalizing vs with
  | nil => intro ks k x e; cases ks <;> cases e
  | cons y l ih =>
    cases q with
    | cons h r =>
      intro ks k x e
      cases ks with
      | nil => cases e
      | cons k0 ks =>
        unfold Y.dkGet at e
        rw [List.zip_cons_cons, List.find?_cons] at e
        unfold valV
        rw [List.zip_cons_cons, List.find?_cons]
        by_cases hk : k0 = k
        · simp only [hk, decide_true] at e ⊢
          cases e
          exact ⟨_, rfl, h⟩
        · simp only [hk, decide_false] at e ⊢
          exact ih r e
def keyP : P → Option Key
  | .int i => some (.inl i)
  | .str z => some (.inr z)
  | _ => none
def mDGet (o a : EM) : EM := fun σ st => (o σ st).bind fun w st1 => (a σ st1).bind fun x st2 => match w, x with
  | .p (.dk ks l), .p y => match keyP y with
    | some k => match dkGet ks l k with
      | some z => .ok (.p z) st2
      | none => .no
    | none => .no
  | _, _ => .no
def amOf : List EM → AM
  | [] => mNil
  | m :: ms => mCons m (amOf ms)
def mDisp (ks : List Str) (ms : List EM) : EM := fun σ st => (amOf ms σ st).nox.bind fun ws st1 => match pures ws with
  | some l => .ok (.p (.dk (ks.map .inr) l)) st1
  | none => .no
def strsOf : List P → Option (List Str)
  | [] => some []
  | .str z :: l => match strsOf l with
    | some m => some (z :: m)
    | none => none
  | _ => none
def vJoin (w : W) (ws : List W) (st : List Cell) : Res W := match w, ws with
  | .p (.str a), [x] => match (seqP st x).bind strsOf with
    | some ys => if (ys.map (·.length)).sum + ys.length * a.length ≤ LIM then .ok (.p (.str (Txt.join a ys))) st else .no
    | none => .no
  | _, _ => .no
def mInv (c : Nat) (F : FM) (a : EM) : EM := fun σ st => (a σ st).bind fun w st1 => if clsOf st1 w = some c then (callF F [w] st1).nox else .no
end
end Y
namespace Y
open PySem PySem.Spec PyProof.Rows L2
section
variable {K : PySem.W.Frag} {cl : Cls} {X : Cx} {Wx : WX} {E0 : En} {ρ ρ' : List Addr} {G G' : Hp} {σ : Sg} {τ : L2.St} {st : List Cell} {H : Hp} {D : Ends}
def mFrz (a : EM) : EM := fun σ st => (a σ st).bind fun w st1 => match w with
  | .p x => .ok (.p x) st1
  | .r i => match st1[i]? with
    | some (.lst l) => match pures l with
      | some m => .ok (.p (.lst m)) (st1.set i .dead)
      | none => .no
    | _ => .no
theorem loc_ok {sc : Scope} {x : Str} (h : loc sc x = true) : Loc sc x := by
  unfold loc at h
  split at h
  · exact .inl (by assumption)
  · exact .inr (by assumption)
  · cases h
theorem callK {f : Addr} {ps : List Str} {F : FM} {a : AM} {k : Nat} {x : Str} {p pos : Pos} {e : Expr} {es : List Expr} (h : Fk X.prog X.w X.K X.mg X.base cl k f ps F) (g : GX K X) (hr : Room k X.A) (hg : Gl X x) (hm : X.mg x = some (.ref f))
    (ha : SA K cl X Wx a (e :: es)) (hdb : (x == ("__debug__" : Str)) = false) (he : starEach (e :: es) X.env = (false, eval e X.env) :: starEach es X.env := by rfl) (hpl : (backTo pos (starEach es X.env)).any (·.1) = false := by rfl) :
    SE K cl X Wx (mCallF F a) (.Call (.Name x p) (e :: es) [] pos) := by
  obtain ⟨hK, _⟩ := g
  subst hK
  obtain ⟨fd, h1, h2⟩ := h.ex
  exact se_call h1 hr hg hm h.kp h2 ha hdb he hpl
theorem callK0 {f : Addr} {ps : List Str} {F : FM} {k : Nat} {x : Str} {p pos : Pos} (h : Fk X.prog X.w X.K X.mg X.base cl k f ps F) (g : GX K X) (hr : Room k X.A) (hg : Gl X x) (hm : X.mg x = some (.ref f)) (hdb : (x == ("__debug__" : Str)) = false) :
    SE K cl X Wx (mCallF F mNil) (.Call (.Name x p) [] [] pos) := by
  obtain ⟨hK, _⟩ := g
  subst hK
  obtain ⟨fd, h1, h2⟩ := h.ex
  exact se_call0 h1 hr hg hm h.kp h2 hdb
theorem methK {f C : Addr} {ns : List Str} {c : Nat} {ps : List Str} {F : FM} {o : EM} {eo : Expr} {a : AM} {k : Nat} {m : Str} {apos pos : Pos} {e : Expr} {es : List Expr} {pl : Sem Bool} (h : Fk X.prog X.w X.K X.mg X.base cl k f ps F) (g : GX K X) (hr : Room k X.A) (hC : cl[c]? = some (C, ns)) (hn : ns.contains m = false) (kc : L2.Cls K C) (hmt : Meth K C m f)
    (ho : SE K cl X Wx o eo) (ha : SA K cl X Wx a (e :: es))
    (hst : starEach (e :: es) X.env = (false, eval e X.env) :: starEach es X.env := by rfl) (hpl : (backTo pos (starEach es X.env)).any (·.1) = false := by rfl)
    (ht : eval (.Call (.Attribute eo m apos) (e :: es) [] pos) X.env = (do
      let ov ← eval eo X.env
      standAt apos.atName
      let (f, first) ← holding [ov] (getMethod ov m pl)
      callWith pos f first (backTo pos (starEach (e :: es) X.env)) (backToKw pos (keywordEach [] X.env))) := by rfl) : SE K cl X Wx (mMeth c F o a) (.Call (.Attribute eo m apos) (e :: es) [] pos) := by
  obtain ⟨hK, _⟩ := g
  subst hK
  obtain ⟨fd, h1, h2⟩ := h.ex
  exact se_meth hC (fun z => by rw [List.contains_iff_mem.mpr z] at hn; cases hn) kc hmt h1 hr h2 ho ha hst hpl ht
theorem methK0 {f C : Addr} {ns : List Str} {c : Nat} {ps : List Str} {F : FM} {o : EM} {eo : Expr} {k : Nat} {m : Str} {apos pos : Pos} {pl : Sem Bool} (h : Fk X.prog X.w X.K X.mg X.base cl k f ps F) (g : GX K X) (hr : Room k X.A) (hC : cl[c]? = some (C, ns)) (hn : ns.contains m = false) (kc : L2.Cls K C) (hmt : Meth K C m f)
    (ho : SE K cl X Wx o eo)
    (ht : eval (.Call (.Attribute eo m apos) [] [] pos) X.env = (do
      let ov ← eval eo X.env
      standAt apos.atName
      let (f, first) ← holding [ov] (getMethod ov m pl)
      callWith pos f first (backTo pos (starEach [] X.env)) (backToKw pos (keywordEach [] X.env))) := by rfl) : SE K cl X Wx (mMeth c F o mNil) (.Call (.Attribute eo m apos) [] [] pos) := by
  obtain ⟨hK, _⟩ := g
  subst hK
  obtain ⟨fd, h1, h2⟩ := h.ex
  exact se_meth0 hC (fun z => by rw [List.contains_iff_mem.mpr z] at hn; cases hn) kc hmt h1 hr h2 ho ht
section
variable {a b : EM} {pa pb : Expr} {pos : Pos}
theorem st_eq (g : GX K X) (ha : SE K cl X Wx a pa) (hb : SE K cl X Wx b pb) (hm : behindInMarks .Eq pb = false := by rfl) : ST K cl X Wx (mTst (mBin (vEqB false) a b)) (.Compare pa [.Eq] [pb] pos) := by
  obtain ⟨hK, hc, hN, hu, hh⟩ := g
  subst hK
  exact st_cmp (op_eqA (by omega)) hm vEq_ok ha hb
theorem st_ne (g : GX K X) (ha : SE K cl X Wx a pa) (hb : SE K cl X Wx b pb) (hm : behindInMarks .NotEq pb = false := by rfl) : ST K cl X Wx (mTst (mBin (vEqB true) a b)) (.Compare pa [.NotEq] [pb] pos) := by
  obtain ⟨hK, hc, hN, hu, hh⟩ := g
  subst hK
  exact st_cmp (op_neA (by omega)) hm vNe_ok ha hb
theorem st_lt (ha : SE K cl X Wx a pa) (hb : SE K cl X Wx b pb) (hm : behindInMarks .Lt pb = false := by rfl) : ST K cl X Wx (mTst (mBin vLt a b)) (.Compare pa [.Lt] [pb] pos) := st_cmp op_lt hm vLt_ok ha hb
theorem st_gt (ha : SE K cl X Wx a pa) (hb : SE K cl X Wx b pb) (hm : behindInMarks .Gt pb = false := by rfl) : ST K cl X Wx (mTst (mBin vGt a b)) (.Compare pa [.Gt] [pb] pos) := st_cmp op_gt hm vGt_ok ha hb
theorem st_ge (ha : SE K cl X Wx a pa) (hb : SE K cl X Wx b pb) (hm : behindInMarks .GtE pb = false := by rfl) : ST K cl X Wx (mTst (mBin vGe a b)) (.Compare pa [.GtE] [pb] pos) := st_cmp op_ge hm vGe_ok ha hb
theorem st_is (ha : SE K cl X Wx a pa) (hb : SE K cl X Wx b pb) (hm : behindInMarks .Is pb = false := by rfl) : ST K cl X Wx (mTst (mBin (vIsN false) a b)) (.Compare pa [.Is] [pb] pos) := st_cmp op_isN hm vIs_ok ha hb
end
theorem ixK {a b : EM} {pa pb : Expr} {pos : Pos} (g : GX K X) (hs : PlainIx pb) (ha : SE K cl X Wx a pa) (hb : SE K cl X Wx b pb) : SE K cl X Wx (mBin vIx a b) (.Subscript pa pb pos) := by
  obtain ⟨hK, _⟩ := g
  subst hK
  exact se_ix ixRA vIx_ok hs ha hb
where ixRA : IxR X (rIx X.K) := (IxR.or ix_list (IxR.or ix_tup ix_str))
end
end Y
namespace Y
open PySem PySem.Spec PyProof.Rows L2
section
variable {K : PySem.W.Frag} {cl : Cls} {X : Cx} {Wx : WX} {E0 : En} {ρ ρ' : List Addr} {G G' : Hp} {σ : Sg} {τ : L2.St} {st : List Cell} {H : Hp} {D : Ends}
section
variable {f C : Addr} {fd : FuncData} {ps ks : List Str} {F : FM} {o : EM} {eo e : Expr} {es : List Expr} {a : AM} {k c n nk : Nat} {m x : Str} {p apos pos : Pos} {kws : List Keyword} {ns : List Str} {ix : List Nat} {Wk : FuncData → Prop}
def mMethKw (c : Nat) (F : FM) (ix : List Nat) (n : Nat) (o : EM) (a : AM) : EM := fun σ st => (o σ st).bind fun w st1 => if clsOf st1 w = some c then (a σ st1).bind fun ws st2 => if ws.length = n then (callF F (gI ix [w] ws) st2).nox else .no else .no
def mMakeKw (c n : Nat) (F : FM) (ix : List Nat) (nk : Nat) (a : AM) : EM := fun σ st => (a σ st).bind fun ws st1 => if ws.length = nk then makeF c n F (gI ix [] ws) st1 else .no
def mCallKw (F : FM) (ix : List Nat) (n : Nat) (a : AM) : EM := fun σ st => (a σ st).bind fun ws st1 => if ws.length = n then (callF F (gI ix [] ws) st1).nox else .no
end
def sTry0 (b : SMm) : SMm := fun σ st => (b σ st).nox
end
end Y
namespace Y
open PySem PySem.Spec PyProof.Rows L2
section
variable {K : PySem.W.Frag} {cl : Cls} {X : Cx} {Wx : WX} {E0 : En} {ρ ρ' : List Addr} {G G' : Hp} {σ : Sg} {τ : L2.St} {st : List Cell} {H : Hp} {D : Ends}
def vSumS (ws : List W) (st : List Cell) : Res W := match ws with
  | [w] => match (seqP st w).bind intsOf with
    | some l => .ok (.p (.int l.sum)) st
    | none => .no
  | _ => .no
def vMaxS (ws : List W) (st : List Cell) : Res W := match ws with
  | [w] => match (seqP st w).bind intsOf with
    | some l => if 0 < l.length then .ok (.p (.int (maxI l))) st else .no
    | none => .no
  | [.p (.int i), .p (.int j)] => .ok (.p (.int (if j > i then j else i))) st
  | _ => .no
end
end Y
namespace Y
open PySem PySem.Spec PyProof.Rows L2
open PySem.W (ksEnv ksFn kxs_mw)
abbrev ccx (P : Program) (w : World) (K : PySem.W.Frag) (mg : Str → Option Value) (base : Heap) (ps : List Str) (qual : Str) (scope : Scope) (f cc : Addr) (cd : Value) (A : Around) (outer : List Env) (s : Shared) (H : Hp) : Cx where
  prog := P
  w := w
  K := K
  mg := mg
  base := base
  A := A.deeper (ksEnv qual scope s.heap.objs.size f cd cc)
  N := ps
  s_0 := s
  H_0 := H
  env := ksEnv qual scope s.heap.objs.size f cd cc
  outer := outer
  stack := ksEnv qual scope s.heap.objs.size f cd cc :: outer
  ex := []
  calm := true
  fn := fun _ => false
  pn := []
  xe := fun _ _ => False
theorem lookup_nd {y : Str} {u : Value} : ∀ {l : List (Str × Value)}, (l.map (·.1)).Nodup → (y, u) ∈ l → l.lookup y = some u
  | (z, v) :: l, nd, h => by
    rw [List.map_cons, List.nodup_cons] at nd
    rw [List.lookup_cons]
    rcases List.mem_cons.mp h with e | h
    · cases e
      simp
    · have : (y == z) = false := beq_eq_false_iff_ne.mpr fun e => nd.1 (by rw [← e]; exact List.mem_map.mpr ⟨_, h, rfl⟩)
      rw [this]
      exact lookup_nd nd.2 h
theorem rev_lookup {ps : List Str} {us : List Value} (nd : ps.Nodup) (hl : us.length = ps.length) {i : Nat} {y : Str} {u : Value} (h1 : ps[i]? = some y) (h2 : us[i]? = some u) : (ps.zip us).reverse.lookup y = some u := by
  refine lookup_nd ?_ (List.mem_reverse.mpr (List.mem_iff_getElem?.mpr ⟨i, by rw [List.getElem?_zip_eq_some]; exact ⟨h1, h2⟩⟩))
  rw [List.map_reverse, List.map_fst_zip (by omega)]
  exact (List.reverse_perm ps).nodup_iff.mpr nd
section
variable {P : Program} {w : World} {K : PySem.W.Frag} {mg : Str → Option Value} {base : Heap} {ps : List Str} {name qual : Str} {scope : Scope} {f cc C cda : Addr} {cd : Value} {A : Around} {outer : List Env} {s : Shared} {H : Hp}
theorem inv_startC {us : List Value} {vs : List V} (S : CScope ps scope) (hd : A.handled = none) (e0 : Env0 P w K mg base A outer s H) (hl : vs.length = ps.length) (r : Vals vs us) {ob : Obj} {v0 : Option Value} (hcc : K.lookup cc = some ob) (hob : ob.data = .cell v0)
    {h₁ : Heap} {tk : Nat} (hns : h₁.Ns s.heap.objs.size fun x => (ps.zip us).reverse.lookup x) (kp : ∀ b o, s.heap.get? b = some o → h₁.get? b = some o) :
    Inv (ccx P w K mg base ps qual scope f cc cd A outer s H) [] (L2.start ps vs) H { s with heap := h₁, toks := tk } := by
  have noA : ∀ b : Addr, b ∉ (ccx P w K mg base ps qual scope f cc cd A outer s H).ex := fun b z => absurd (show b ∈ ([] : List Addr) from z) (by simp)
  have hbc : base.get? cc = some ob := e0.mod.kin _ _ hcc
  have lku : ∀ {y c}, ([("__class__", cc)] : List (Str × Addr)).lookup y = some c → y = ("__class__" : Str) ∧ c = cc := fun {y c} h => by
    rw [List.lookup_cons] at h
    split at h
    · rename_i e
      exact ⟨eq_of_beq e, (Option.some.inj h).symm⟩
    · cases h
  have lul : us.length = ps.length := by rw [← r.length]; exact hl
  refine ⟨⟨e0.mod, S.kind, rfl, rfl, Nat.le_refl _, fun y z c h1 h2 => (lku h1).1.trans (lku h2).1.symm, fun y hy => ?_, fun y c z _ => ?_, fun _ => hd, Around.frames_deeper e0.frames, .inr ⟨rfl, rfl⟩, fun b z => absurd z (noA b), e0.bs, e0.bsz, fun b _ _ => noA b, fun b z => absurd z (noA b), e0.funs, e0.frf⟩,
    rfl, e0.bare, Un.kept kp, ⟨_, hns, fun i y v h1 h2 h3 => ?_⟩, fun y c h => ?_, e0.hok.fresh (Nat.le_refl _), fun y c h => ?_, fun p hp => absurd (show p ∈ ([] : List (Addr × Obj)) from hp) (by simp), e0.hok.kept kp, ?_⟩
  · have hy : scope.names.lookup y = some .cell ∨ scope.names.lookup y = some .free := hy
    rcases hy with hy | hy
    · exact absurd rfl (S.nocell _ (PySem.mem_of_lookup hy))
    · have := S.own _ (PySem.mem_of_lookup hy) rfl
      have this : y = ("__class__" : Str) := this
      subst this
      exact ⟨cc, rfl⟩
  · exact absurd (show false = true from z) (by simp)
  · have hi : i < vs.length := by
      unfold L2.start at h2
      by_cases hi : i < vs.length
      · exact hi
      · rw [List.getElem?_append_right (by simpa using hi)] at h2
        rw [List.getElem?_replicate] at h2
        split at h2 <;> cases h2
    have ha : vs[i]? = some v := by
      unfold L2.start at h2
      rw [List.getElem?_append_left (by simpa using hi), List.getElem?_map] at h2
      cases e : vs[i]? with
      | none => rw [e] at h2; cases h2
      | some a => rw [e] at h2; cases h2; rfl
    obtain ⟨u, hu, rv⟩ := r.get ha
    have hp : ps[i]? = some y := h1
    exact ⟨u, rv, .inl ⟨S.par y (List.mem_of_getElem? hp), rev_lookup S.nd lul hp hu⟩⟩
  · obtain ⟨_, rfl⟩ := lku h
    exact ⟨v0, ob, kp _ _ (e0.bs _ _ hbc).1, hob⟩
  · obtain ⟨_, rfl⟩ := lku h
    exact (e0.bs _ _ hbc).2
  · unfold L2.start
    simp [hl]
end
section
open PySem.W PySem.Calls
variable {prog : Program} {w : World} {A : Around} {E : Value → Shared → Prop} {h : Heap} {g : Array GenState} {d : Drawn} {t : Nat} {os : OsState}
variable {nm q : Str} {C N : Addr} {bs bm : List Value} {hdct : Bool} {sn : List Str} {sub : List Value} {ab : Bool} {col : Option Bool} {dd : Option Addr} {k0 k1 k2 k3 k5 : Option Value}
theorem call_bwV {u e t0 : Addr} {rest : List Value} {Q : Value → Shared → Prop}
    (hC : h.get? C = some (excClassObj nm q C N bs bm hdct sn sub ab col dd k0 k1 k2 k3 k5 "ValueError.__new__")) (he : h.get? e = some (HandSPX.excO C t0)) (hu : h.get? u = some (kxs_mw "ValueError.__init__" e)) (hrest : rest.length ≤ sizeLine)
    (hq : ∀ h' t1, (∀ b o, b ≠ e → h.get? b = some o → h'.get? b = some o) → h'.get? e = some (HandSPX.excO C t1) → Q .none ⟨h', g, d, t, os⟩) :
    wpAny (model prog w) A (call (.ref u) rest) Q E ⟨h, g, d, t, os⟩ := by
  refine wpAny_call (codeAny_of_tree ?_)
  show wpAny _ A.in1 (callAny (.ref u) ⟨rest, []⟩) _ _ _
  simp only [callAny]
  refine wpAny_bind (wpAny_load hu ?_)
  simp only [kxs_mw, show (Value.type "method-wrapper" == Value.type "method" || Value.type "method-wrapper" == Value.type "builtin_function_or_method" || Value.type "method-wrapper" == Value.type "method-wrapper") = true by decide, if_true]
  refine W.KFB.if_so (by decide) ?_
  refine wpAny_bind (check_bound_init F.excBase_ValueError.toExcCallFacts hC he rfl ?_)
  refine wpAny_bind (wpAny_pure (wpAny_pure ?_))
  refine ⟨Code.quiet_builtin _ (by decide +kernel), codeAny_builtin F.excBase_ValueError.initEntry ?_⟩
  rw [Around.under_plainId F.excBase_ValueError.init.plain _]
  wp_walk
  refine hq _ h.objs.size (fun b o hb ho => ?_) ?_
  · rw [Heap.get?_update_other _ _ (Ne.symm hb)]
    exact Heap.get?_push_of_some _ ho
  · rw [Heap.get?_update_self _ (Heap.get?_push_of_some _ he) rfl]
    rfl
end
section
open PySem.W PySem.Calls
variable {P : Program} {w : World} {K : PySem.W.Frag} {mg : Str → Option Value} {base : Heap} {C f cc cda : Addr} {name qual : Str} {params : Arguments} {scope : Scope} {fd : FuncData}
theorem say_fn {ps ps' : List Str} {k j : Nat} {p0 p1 p2 p3 p4 p5 : Pos} {m : Str} {rest : List Stmt} {t : TS} (hps : ps = ("self" : Str) :: ps')
    (D : SayF P K mg C f cc cda name qual params (.Expr (.Call (.Attribute (.Call (.Name "super" p0) [] [] p1) "__init__" p2) [.Constant (.str m) j p3] [] p4) p5 :: rest) scope fd) (S : CScope ps scope)
    {pl : Sem Bool} (he : ∀ L, eval (.Call (.Attribute (.Call (.Name "super" p0) [] [] p1) "__init__" p2) [.Constant (.str m) j p3] [] p4) (ksEnv qual scope L f (.ref cda) cc) = (do
      let ov ← attributeBase (.Call (.Name "super" p0) [] [] p1) "__init__" (ksEnv qual scope L f (.ref cda) cc) (eval (.Call (.Name "super" p0) [] [] p1) (ksEnv qual scope L f (.ref cda) cc))
      standAt p2.atName
      let (f', first) ← holding [ov] (getMethod ov "__init__" pl)
      callWith p4 f' first (backTo p4 (starEach [.Constant (.str m) j p3] (ksEnv qual scope L f (.ref cda) cc))) []))
    (hi : ∀ L, interactive (ksEnv qual scope L f (.ref cda) cc) = false) (hsw : ∀ L, swapsWith (.Call (.Attribute (.Call (.Name "super" p0) [] [] p1) "__init__" p2) [.Constant (.str m) j p3] [] p4) none p5.line (ksEnv qual scope L f (.ref cda) cc) = pure false)
    (hrest : ∀ (A : Around) (outer : List Env) (s : Shared) (H : Hp), PSs (ccx P w K mg base ps qual scope f cc (.ref cda) A outer s H) rest t) : FnOk P w K mg base CX0 (k + 1) f fd ps (spSay ps C t) := by
  refine ⟨fun vs H Q E h => h.1, fun A outer s H args us vs Q E hr e0 hb' r hsp => ?_⟩
  obtain ⟨hl, a, ws, rfl, ea, ht⟩ := hsp
  obtain ⟨oc, od, dV, kV, doc, pm, an, ct, osl, rfl, lk⟩ := D.lk
  obtain ⟨cl0, cd0, csl, hcc⟩ := D.cell
  obtain ⟨ar, hpar, har⟩ := D.par
  obtain ⟨ccl, cdd, cvs, ccs, file, tf, hcode, hvs, hfile⟩ := D.code
  have KX : K.In s.heap := e0.mod.kin.keeps fun b o e => (e0.bs b o e).1
  have lim : s.heap.NoLimit := e0.mod.nolimit.keeps fun b o e => (e0.bs b o e).1
  refine PySem.ks_codeAny_call_defAt (binds := ps.zip us) hr.depth (KX _ _ lk) rfl lim (PySem.W.codeRec_of KX D.hcd) rfl hb' S.nocell (fun y hy => S.par _ (List.of_mem_zip hy).1) (fun h₁ hns kp => ?_) S.co S.gen S.kind
  have I := inv_startC (w := w) (mg := mg) (qual := qual) (f := f) (cd := .ref cda) (tk := s.toks + (ps.zip us).length) S hr.hd e0 hl r hcc rfl hns kp
  have fin : ∀ {σ' : L2.St} {H' : Hp} {v : V} {u : Value} {s' : Shared}, Inv (ccx P w K mg base ps qual scope f cc (.ref cda) A outer s H) [] σ' H' s' → L2.RelV v u → Q v H' → CE outer P w H s Q u s' :=
    fun {σ' H' v u s'} J rv q => ⟨v, H', J.os, J.bare, J.base, J.hok, rv, q⟩
  have fin2 : ∀ (fl : Flow) (s' : Shared), SP (ccx P w K mg base ps qual scope f cc (.ref cda) A outer s H) [] { nx := fun _ H' => Q .non H', rt := Q } fl s' → CE outer P w H s Q (match fl with | .ret v => v | _ => .none) s' := fun fl s' hs => by
    cases fl with
    | ret u =>
      obtain ⟨v, σ', H', J, rv, q⟩ := hs
      exact fin J rv q
    | next =>
      obtain ⟨σ', H', J, q⟩ := hs
      exact fin (v := V.non) (u := Value.none) J rfl q
    | brk =>
      obtain ⟨_, _, _, q⟩ := hs
      exact False.elim q
    | cont =>
      obtain ⟨_, _, _, q⟩ := hs
      exact False.elim q
  refine PySem.ks_wpAt_execs_cons (PySem.ks_wpAt_Expr_any (PySem.ks_wpAt_MethodCall (PySem.ks_wpAt_super_base (env := ksEnv qual scope s.heap.objs.size f (.ref cda) cc) S.sup S.cls rfl rfl (I.kIn _ _ lk) rfl hpar rfl (I.kIn _ _ hcode) rfl hvs hfile D.top ?_) (he _)) (hi _) (hsw _))
  obtain ⟨mb, b1, b2⟩ := I.mod.blt
  obtain ⟨u0, ur, rfl, ru⟩ : ∃ u0 ur, us = u0 :: ur ∧ L2.RelV (.ref a) u0 := by
    cases r with
    | cons r1 r2 => exact ⟨_, _, rfl, r1⟩
  obtain rfl : u0 = .ref a := ru
  obtain ⟨nm, qn, N, bs, bm, sn, sub, ab, col, dd, k0, k1, k2, k3, k5, hCK, hbm⟩ := D.T.cls
  have hC := I.kIn _ _ hCK
  obtain ⟨t1, hea⟩ := exo_at I.hok ea
  have hcl : PySem.W.clsIn K C = some { name := nm, bases := bs, mro := .ref C :: bm, ns := N, qualname := qn, hasDict := true, slotNames := sn, subclasses := sub, abstract := ab, collection := col, hasDel := false } := by unfold PySem.W.clsIn; rw [hCK] <;> rfl
  have lul : (Value.ref a :: ur).length = ps.length := by rw [← r.length]; exact hl
  have hself : (ps.zip (Value.ref a :: ur)).reverse.lookup ar.arg = some (.ref a) := by
    rw [har]
    exact rev_lookup (i := 0) S.nd lul (by rw [hps]; rfl) rfl
  refine PySem.W.ks_loadName_global S.kind S.sup (PySem.Calls.loadGlobal_builtin (env := ksEnv qual scope s.heap.objs.size f (.ref cda) cc) (I.mod.glob.keeps I.bk) D.sup (b1.keeps I.bk) ((b2 "super" (by decide)).trans PyProof.Rows.Boot.«super») ⟨rfl, ?_⟩)
  refine wpAny_loadName_free S.kind S.cls rfl ⟨_, I.kIn _ _ hcc, rfl⟩ ?_
  refine wpAny_loadName_local S.kind (by rw [har]; exact S.par _ (by rw [hps]; exact List.mem_cons_self)) hns hself ?_
  refine PySem.ks_wpAny_isType_cls hC rfl ⟨rfl, ?_⟩
  refine PySem.ks_wpAny_call_super hC rfl hea rfl (fun c e => by cases e) (PySem.W.looks_mroIn I.kIn D.self) (fun h' e k => ?_)
  have I2 : Inv (ccx P w K mg base ps qual scope f cc (.ref cda) A outer s H) [] (L2.start ps (.ref a :: ws)) H { s with heap := h', toks := s.toks + (ps.zip (Value.ref a :: ur)).length } := I.kept k
  have ia : PySem.W.InstAt h' a (PySem.HandSPX.excO C t1) C none := ⟨k _ _ hea, rfl, rfl, trivial⟩
  have al := D.along
  unfold PySem.W.ks_superIn at al
  rw [hcl] at al
  refine PySem.W.kxs_getMethod PySem.W.kxs_ValueError e (PySem.W.looks_opaque I2.kIn D.opq) (l₀ := .ref C :: bm) (fun A Q E s k q => wpAny_bind ((PySem.W.looks_clsIn I2.kIn hcl) A _ E s k (wpAny_pure q))) rfl I2.kIn al (ia.type.andThen (PySem.W.looks_subIn I2.kIn D.isVE)) (PySem.W.ks_ne I2.kIn ia hcl) (by decide) ?_
  have hu : (h'.push (kxs_mw "ValueError.__init__" a)).get? h'.objs.size = some (kxs_mw "ValueError.__init__" a) := Heap.get?_push_at rfl rfl
  have kk : ∀ b o, h'.get? b = some o → (h'.push (kxs_mw "ValueError.__init__" a)).get? b = some o := fun b o e => Heap.get?_push_of_some _ e
  refine PySem.W.kxs_callWith (i := "ValueError.__init__") (x := a) rfl ?_
  refine PySem.Calls.evalArgs_plain (PySem.Calls.spliced_cons (PySem.Calls.Constant_str (pos := p3) (k := j) (PySem.Calls.spliced_nil ⟨hu, ?_⟩)))
  refine call_bwV (kk _ _ (k _ _ hC)) (kk _ _ (k _ _ hea)) hu (by rw [sizeLine_eq]; show 1 ≤ 16777216; decide) fun h3 t3 k3 hx => ?_
  have J := (I2.kept (t' := 0) kk).write (t' := s.toks + (ps.zip (Value.ref a :: ur)).length + 1 + 1) (x := a) (e := a) (o := exo a C none) (h' := h3) (by rw [ea]; exact True.intro) (.inl rfl) k3 ⟨_, hx⟩ (exo_ok hx)
  have eu : upd H a (exo a C none) = H := by
    funext b
    by_cases hb : b = a
    · rw [hb, upd_same, ea]
    · rw [upd_ne hb]
  rw [eu] at J
  refine wpAt_of_wpAny ?_
  refine wpAny_mono ((hrest A outer s H).run [] _ _ H _ J ht) (fun fl s' hs => fin2 fl s' hs) fun e' s' hs => hs.elim
end
end Y
namespace Y
open PySem PySem.Spec PyProof.Rows L2
open PySem.W (ksEnv ksFn kxs_mw)
def tExc (C : Addr) (fs : List (Str × V)) (H : Hp) (Q : XK) : Prop := ∀ d, H d = none → Q (.ref C) (some d) (upd H d (.xd fs))
theorem say1_end {K : PySem.W.Frag} {C : Addr} {T g : Str} {v : V} {H : Hp} {Q : XK} {pn : Str} (O : OexC K C) (ht : PySem.W.findIn K (.ref C) "tag" = some none) (hg : PySem.W.findIn K (.ref C) g = some none) (h : tExc C [(g, v), ("tag", .str T)] H Q) {a : Addr} (ha : H a = none) :
    spSay ["self", pn] C (tSay1 K T g) [.ref a, v] (upd H a (exo a C none)) (fun v H2 => v = .non ∧ ∃ (d : Addr) (fs : List (Str × V)), H2 a = some (exo a C (some d)) ∧ H2 d = some (exd d fs) ∧ H d = none ∧ Q (.ref C) (some d) (upd (L2.del H2 a) d (.xd fs))) (fun _ _ _ => False) := by
  refine ⟨rfl, a, [v], rfl, upd_same, ⟨.ref a, rfl, a, C, rfl, O, ht, .inl ⟨upd_same, fun d hd hne => ⟨v, rfl, .ref a, rfl, a, C, rfl, O, hg, .inr ⟨d, [("tag", .str T)], upd_same, ?_, by simp, rfl, d, [(g, v), ("tag", .str T)], ?_, upd_same, ?_, ?_⟩⟩⟩⟩⟩
  · rw [upd_ne hne, upd_same]
  · rw [upd_ne (Ne.symm hne), upd_same]
  · rwa [upd_ne hne] at hd
  · rw [upd_ne hne] at hd
    have e : upd (L2.del (upd (upd (upd (upd H a (exo a C none)) d (exd d [("tag", V.str T)])) a (exo a C (some d))) d (exd d [(g, v), ("tag", .str T)])) a) d (.xd [(g, v), ("tag", .str T)]) = upd H d (.xd [(g, v), ("tag", .str T)]) := by
      funext b
      by_cases h : b = d
      · subst h; rw [upd_same, upd_same]
      · rw [upd_ne h, upd_ne h]
        by_cases h2 : b = a
        · subst h2; rw [del_same, ha]
        · rw [del_ne h2, upd_ne h, upd_ne h2, upd_ne h, upd_ne h2]
    rw [e]
    exact h d hd
def sRaise0 (c : Nat) (T : Str) : SMm := fun σ st => .exc ⟨c, [.str T]⟩ σ st
def sRaise1 (c : Nat) (m : EM) (T : Str) : SMm := fun σ st => (m σ st).to σ fun w st1 => match w with
  | .p x => .exc ⟨c, [x, .str T]⟩ σ st1
  | _ => .no
section
variable {K : PySem.W.Frag} {cl : Cls} {X : Cx} {Wx : WX} {E0 : En} {ρ ρ' : List Addr} {G G' : Hp} {σ : Sg} {τ : L2.St} {st : List Cell} {H : Hp} {D : Ends}
theorem exc_new {C : Addr} {c : Nat} {ns : List Str} {vs : List V} {l : List P} (hC : cl[c]? = some (C, ns)) (hl : ns.length = vs.length) (R : (bs K cl E0).Rel ρ G st H) (S : RS K cl ρ G σ τ) (r : RPs K cl G l vs) (h : AftS (bs K cl E0) ρ G (.exc ⟨c, l⟩ σ st) D Wx) :
    tExc C (ns.zip vs) H fun cls d H' => Wx cls d τ H' := by
  intro d hd
  refine h ρ (upd G d (.xd (ns.zip vs))) (upd H d (.xd (ns.zip vs))) τ (.ref C) (some d) (List.prefix_refl _) (Sub.new (R.gnone hd)) (R.froze hd) (S.mono (List.prefix_refl _) (Sub.new (R.gnone hd))) ?_
  exact ⟨C, ns, d, vs, hC, rfl, rfl, upd_same, hl, r.mono (Sub.new (R.gnone hd))⟩
theorem ss_raise1 {C : Addr} {k c : Nat} {tg f pn x : Str} {p pos pos2 : Pos} {a : EM} {e : Expr} (B : Exc1 X.prog X.w X.K X.mg X.base cl k c C tg f pn) (g : GX K X) (tk : Takes X Wx) (hr : Room (k + 1) X.A) (hg : Gl X x) (hm : X.mg x = some (.ref C)) (ha : SE K cl X Wx a e)
    (hdb : (x == ("__debug__" : Str)) = false) (he : starEach [e] X.env = (false, eval e X.env) :: starEach [] X.env := by rfl) (hpl : (backTo pos (starEach [] X.env)).any (·.1) = false := by rfl) :
    SS K cl X Wx (sRaise1 c a tg) (.Raise (some (.Call (.Name x p) [e] [] pos)) none pos2) := by
  obtain ⟨hK, hc, _⟩ := g
  subst hK
  obtain ⟨fI, fd, h1, h2, h3, h4⟩ := B.ex
  refine ⟨fun E0 ρ G σ st τ H D R S h => TS'.of (ps_raise hc tk (pmk_oex B.O h1 h2 h3 hr h4 .nil pass0 hg hm (pa_cons T.pe pa_nil he) hdb he hpl)) ?_⟩
  refine ha.run E0 ρ G σ st τ H _ R S (AftS.seq S h fun w st1 ρ1 G1 H1 v e1 p1 s1 R1 u1 h' => ?_)
  split at h'
  case h_2 => exact h'.elim
  have S1 := S.mono p1 s1
  have en := exc_new (vs := [v, .str tg]) B.at_ rfl R1 S1 (.cons u1 (.cons (.str tg) .nil)) h'
  exact ⟨by simp, fun y hy => say1_end B.O B.tag B.fld en hy⟩
end
end Y
namespace Y
open PySem PySem.Spec PyProof.Rows L2
section
variable {K : PySem.W.Frag} {cl : Cls} {X : Cx} {Wx : WX} {E0 : En} {ρ ρ' : List Addr} {G G' : Hp} {σ : Sg} {τ : L2.St} {st : List Cell} {H : Hp} {D : Ends}
variable {f : Addr} {fd : FuncData} {ps : List Str} {F : FM} {a : AM} {k : Nat} {x m : Str} {p pos apos : Pos} {e : Expr} {es : List Expr}
def mCallX (F : FM) (a : AM) : EM := fun σ st => (a σ st).bind fun ws st1 => callF F ws st1
def mMethX (c : Nat) (F : FM) (o : EM) (a : AM) : EM := fun σ st => (o σ st).bind fun w st1 => if clsOf st1 w = some c then (a σ st1).bind fun ws st2 => callF F (w :: ws) st2 else .no
theorem callXK (h : Xk X.prog X.w X.K X.mg X.base cl k f ps F) (g : GX K X) (tk : Takes X Wx) (wi : WI Wx) (hr : Room k X.A) (hg : Gl X x) (hm : X.mg x = some (.ref f))
    (ha : SA K cl X Wx a (e :: es)) (hdb : (x == ("__debug__" : Str)) = false) (he : starEach (e :: es) X.env = (false, eval e X.env) :: starEach es X.env := by rfl) (hpl : (backTo pos (starEach es X.env)).any (·.1) = false := by rfl) :
    SE K cl X Wx (mCallX F a) (.Call (.Name x p) (e :: es) [] pos) := by
  obtain ⟨hK, _⟩ := g
  subst hK
  obtain ⟨fd, h1, h2⟩ := h.ex
  refine ⟨fun E0 ρ G σ st τ H Q R S h' => T.of (pe_call (E := fun c d H' => Wx c d τ H') h1 hr hg hm h.kp h2 .nil (passes_call tk fun c d σ H q => wi c d τ σ H q) TA'.pa hdb he hpl) ?_⟩
  refine ha.run E0 ρ G σ st τ H _ R S (Aft.seq h' fun ws st1 ρ1 G1 H1 vs e1 p1 s1 R1 u1 h1 => ?_)
  rw [List.append_nil]
  exact callF_ok R1 u1 h1
def makeX (c n : Nat) (F : FM) (ws : List W) (st : List Cell) : Res W :=
  if (argRefs ws).Nodup then match getCells st (argRefs ws) with
    | some cs => match F (.r 0 :: argIn 1 ws) (.ins c [] :: cs) with
      | .ok (.p .non) st' => if ((st'.drop 1).take (argRefs ws).length).all plainC = true ∧ 1 + (argRefs ws).length ≤ st'.length then match (st'[0]? : Option Cell) with
          | some (Cell.ins c' l) => match pures l with
            | some m => if c' = c ∧ m.length = n then .ok (.p (.obj c m)) (putCells (argRefs ws) (st'.drop 1) st) else .no
            | none => .no
          | _ => .no
        else .no
      | .exc x st' => if ((st'.drop 1).take (argRefs ws).length).all plainC = true ∧ 1 + (argRefs ws).length ≤ st'.length then .exc x (putCells (argRefs ws) (st'.drop 1) st) else .no
      | _ => .no
    | none => .no
  else .no
def mMakeX (c n : Nat) (F : FM) (a : AM) : EM := fun σ st => (a σ st).bind fun ws st1 => makeX c n F ws st1
theorem makeX_ok {c n : Nat} {C : Addr} {ns : List Str} {ws : List W} {vs : List V} {Q : VK} {Z : ZX} (hC : cl[c]? = some (C, ns)) (hn : ns.length = n) (R : (bs K cl E0).Rel ρ G st H) (r : RWs K cl ρ G ws vs) (h : Aft (bs K cl E0) (bs K cl E0).RW ρ G (makeX c n F ws st) Q Z)
    {x dx : Addr} (hx : H x = none) (hdx : H dx = none) (hne : dx ≠ x) : spF K cl F (.ref x :: vs) (upd (upd H dx (.own x)) x (.ins C dx [])) (fun v H2 => v = .non ∧ Q (.ref x) H2) Z := by
  unfold makeX at h
  split at h
  case isFalse => exact h.elim
  rename_i nd
  split at h
  case h_2 => exact h.elim
  rename_i cs hc
  generalize hHm : upd (upd H dx (.own x)) x (.ins C dx []) = Hm
  have up : Sub H Hm := fun a o e => by
    rw [← hHm, upd_ne (ne_of_none e hx), upd_ne (ne_of_none e hdx)]; exact e
  have nx : ∀ y ∈ [x], H y = none := fun y m => by
    have : y = x := by simpa using m
    subst this; exact hx
  have lr : (rhos ρ (argRefs ws)).length = (argRefs ws).length := List.length_map ..
  refine ⟨[x] ++ rhos ρ (argRefs ws), G, [.ins c []] ++ cs, .r 0 :: argIn 1 ws, Rel.enter R nd hc up nx (by simp) rfl (fun i d y e1 e2 => ?_), .cons ⟨x, rfl, rfl⟩ (rws_argIn 1 r fun j i e => ?_), ?_⟩
  · have hi : i = 0 := by
      have := (List.getElem?_eq_some_iff.mp e1).1
      simpa using this
    subst hi
    cases e1
    cases e2
    exact ⟨C, dx, ns, [], hC, by rw [← hHm, upd_same]; simp, Nat.zero_le _, .nil⟩
  · obtain ⟨a, h1, h2⟩ := rhos_at R hc e
    refine ⟨a, h1, ?_⟩
    rw [List.getElem?_append_right (by simp)]
    show (rhos ρ (argRefs ws))[1 + j - 1]? = some a
    rw [show 1 + j - 1 = j by omega]; exact h2
  · have e0 : ([.ins c []] ++ cs : List Cell) = .ins c [] :: cs := rfl
    rw [e0]
    generalize F (.r 0 :: argIn 1 ws) (.ins c [] :: cs) = res at h ⊢
    split at h
    case h_3 => exact h.elim
    case h_2 =>
      rename_i xx st'
      intro ρ' G' H' cls d p s R' u
      by_cases hp : ((st'.drop 1).take (argRefs ws).length).all plainC = true ∧ 1 + (argRefs ws).length ≤ st'.length
      case neg => rw [if_neg hp] at h; exact h.elim
      rw [if_pos hp] at h
      exact h ρ G' H' cls d (List.prefix_refl _) s (Rel.ret R nd hc up nx p s R' hp.1 (by simpa using hp.2)) u
    rename_i st'
    intro ρ' G' H' v p s R' u
    cases u
    by_cases hp : ((st'.drop 1).take (argRefs ws).length).all plainC = true ∧ 1 + (argRefs ws).length ≤ st'.length
    case neg => rw [if_neg hp] at h; exact h.elim
    rw [if_pos hp] at h
    split at h
    case h_2 => exact h.elim
    rename_i c' l e1
    split at h
    case h_2 => exact h.elim
    rename_i m em
    split at h
    case isFalse => exact h.elim
    rename_i hh
    obtain ⟨rfl, hm⟩ := hh
    have R2 := Rel.ret R nd hc up nx p s R' hp.1 (by simpa using hp.2)
    have px : ρ'[0]? = some x := by
      obtain ⟨tl, rfl⟩ := p
      rfl
    obtain ⟨C', dx', ns', us, k1, k2, k3, k4⟩ := R'.cell 0 _ x e1 px
    rw [hC] at k1; cases k1
    have gx : G' x = none := (R'.sep 0 _ x e1 px).resolve_left (fun z => by cases z)
    have q := k4.pures em
    have hl : ns.length = us.length := by rw [← q.length, hm, hn]
    have R3 := Rel.adopt R2 k2 gx (fun i e => by
      obtain ⟨o, q⟩ := R.there e
      rw [hx] at q; cases q) (R.fresh0 hx)
    refine ⟨rfl, h ρ (upd G' x _) H' (.ref x) (List.prefix_refl _) (s.trans (Sub.new gx)) R3 ?_⟩
    exact .obj hC upd_same hl (q.mono (Sub.new gx))
end
end Y
namespace Y
open PySem PySem.Spec PyProof.Rows L2 LamX
theorem strip_rd {H : Hp} {a : Addr} {u : HO} (h : Rd H a u) (nt : NT u) : Rd (strip H) a u := by
  rcases h with h | ⟨o, h⟩
  · exact .inl (strip_of h nt)
  · exact .inr ⟨o, strip_of h fun _ z => by cases z⟩
theorem strip_sq {K : PySem.W.Frag} {H : Hp} {a : Addr} {xs : List V} (h : SqL K H a xs) : SqL K (strip H) a xs := by
  rcases h with h | h
  · exact .inl (strip_rd h fun _ z => by cases z)
  · exact .inr h
end Y
namespace Y
open PySem PySem.Spec PyProof.Rows L2
theorem exq_at {P : Program} {w : World} {H : Hp} {h : Heap} {a : Addr} {oe : Obj} (hok : HOk P w H h) (e : H a = some (exq a oe)) : h.get? a = some oe := by
  have x : ObjOk P w H h a (.ext fun h => h.get? a = some oe) := hok a _ e
  exact x.1
end Y
namespace Y
open PySem PySem.Spec PyProof.Rows L2
def ends1 (i : Nat) (D : Ends) : Ends := { nx := fun σ' H' => D.nx (σ'.set i none) H', rt := D.rt, bk := fun σ' H' => D.bk (σ'.set i none) H', ct := fun σ' H' => D.ct (σ'.set i none) H' }
def wSel (K : PySem.W.Frag) (n0 i : Nat) (D : Ends) : List (Value × (Addr → Value → Option Addr → TS)) → WX
  | [] => fun _ _ _ _ => False
  | (c, ts) :: r => fun cls d σ H => ∃ b, PySem.W.exmOne K cls c = some b ∧ (b = true → ∀ a, H a = none → σ.length = n0 → ts a cls d (ends1 i D) (σ.set i (some (.ref a))) H) ∧ (b = false → wSel K n0 i D r cls d σ H)
section
variable {X : Cx} {n : Str} {i : Nat} {body : List Stmt} {h₀ : ExceptHandler} {hds : List ExceptHandler} {l : List (Value × (Addr → Value → Option Addr → TS))} {pos : Pos} {tb : WX → TS}
theorem ps_try_sel (hs : X.stack = X.env :: X.outer) (hf : X.env.frame = some X.env.locals) (hN : X.N.Nodup) (hi : X.N[i]? = some n) (hln : X.env.kindOf n = some .local)
    (hb : ∀ (W : WX) (pn : List (Addr × Obj)) (xe : Value → Shared → Prop), Takes (X.tr pn xe) W → PassesOwn (model X.prog X.w) X.A X.env xe → PSs (X.tr pn xe) body (tb W))
    (hh : HdsA X n (h₀ :: hds) l) : PS X (.Try body (h₀ :: hds) [] [] pos) (fun D σ H => tb (wSel X.K X.N.length i D l) D σ H) := by
  refine ⟨fun pins s σ H D I h => wpAny_Try_except ?_⟩
  have ok := I.ok
  have hfr : X.A.frames = some (X.env :: X.outer) := by rw [ok.frames, hs]
  refine wpAny_mono ((hb (wSel X.K X.N.length i D l) (X.pn ++ pins) (fun e s₁ => wpAny (model X.prog X.w) X.A (noteFrame e X.env) (fun _ s₂ => wpAny (model X.prog X.w) X.A (setFlight e none) (fun _ s₃ =>
    wpAny (model X.prog X.w) X.A (handleBy e X.env (h₀ :: hds)) (SP X pins D) X.xe s₃) X.xe s₂) X.xe s₁) (fun u s' xx => ?_) PassesOwn.looking).run [] s σ H D (I.toTry _) h) (fun f s1 hsp => ?_) (fun e s1 he => he)
  case refine_2 =>
    cases f with
    | next => obtain ⟨σ', H', J, q⟩ := hsp; exact wpAny_execs_nil ⟨σ', H', J.ofTry ok, q⟩
    | brk => obtain ⟨σ', H', J, q⟩ := hsp; exact ⟨σ', H', J.ofTry ok, q⟩
    | cont => obtain ⟨σ', H', J, q⟩ := hsp; exact ⟨σ', H', J.ofTry ok, q⟩
    | ret u => obtain ⟨v, σ', H', J, r, q⟩ := hsp; exact ⟨v, σ', H', J.ofTry ok, r, q⟩
  obtain ⟨a, B, sI, pins', σ', H', cls, d, rfl, J', nb, up, sky, na, os, ag, w⟩ := xx
  have J : Inv X pins σ' H' sI := J'.ofTry ok
  have sky1 : Sky B (X.env :: X.outer) a (Zc cls d) X.env.locals s'.heap := hs ▸ sky
  show wpAny (model X.prog X.w) X.A (noteFrame (.ref a) X.env) _ _ _
  refine Sky.land Zc.steady hfr hf sky1 fun h3 fl3 up3 => ?_
  have J3 : Inv X pins σ' H' { s' with heap := h3 } := J.landed nb fl3.1 (up.trans up3) os ag
  obtain ⟨oe3, vs3, he3, hz3, hd3⟩ := fl3.there
  have nfr : a ∉ frs (X.env :: X.outer) := fun hm => by
    obtain ⟨_, o', e', hnf⟩ := fl3.2.2.1.mem hm
    rw [he3] at e'; cases e'
    exact hnf _ hd3
  have nL : a ≠ X.env.locals := fun z => nfr (List.mem_filterMap.mpr ⟨X.env, List.mem_cons_self, by rw [hf, z]⟩)
  have nF : a ∉ X.fs := fun hm => by
    obtain ⟨e, he, q⟩ := List.mem_filterMap.mp hm
    exact nfr (List.mem_filterMap.mpr ⟨e, List.mem_cons_of_mem _ he, q⟩)
  have nB : X.base.get? a = none := by
    cases e : X.base.get? a with
    | none => rfl
    | some o =>
      have z := nb a o (J.bk a o e) (hs ▸ nfr)
      rw [fl3.2.1] at z; cases z
  have S3 := J3.suite he3 hd3 na nL nF
  have LT : PySem.W.Looks (model X.prog X.w) h3 (typeOf (.ref a)) cls := fun A Q E s k q => wpAny_typeOf_ref (k _ _ he3) (by rw [hz3.1]; exact q)
  have go : ∀ {hds' : List ExceptHandler} {l' : List (Value × (Addr → Value → Option Addr → TS))}, HdsA X n hds' l' → wSel X.K X.N.length i D l' cls d σ' H' →
      wpAny (model X.prog X.w) X.A (handleBy (.ref a) X.env hds') (SP X pins D) X.xe { s' with heap := h3 } := by
    intro hds' l' hk
    induction hk with
    | nil => intro w; exact w.elim
    | @cons x c ts b₀ suite np pos' hds2 l2 hc hsu r ih =>
      intro w
      obtain ⟨b, hb1, yes, no⟩ := w
      refine wpAny_handleBy_cons (codeAny_handlers_test ?_) (by intro q; cases q)
      have LM := PySem.W.exm_one (M := model X.prog X.w) (J3.kIn) LT hb1
      have named : ∀ {Q : Value → Shared → Prop} {E : Value → Shared → Prop}, Q c { s' with heap := h3 } → wpAny (model X.prog X.w) (X.A.mark (some (.ref a))) (eval (.Name x np) X.env) Q E { s' with heap := h3 } := fun {Q E} q => by
        obtain ⟨hg, hdbg, hm | ⟨hm, hv, hnn⟩⟩ := hc
        · exact ld_glob (X := X.suite a ((a, oe3) :: (X.pn ++ pins))) S3 hg hm q hdbg
        · exact ld_blt (X := X.suite a ((a, oe3) :: (X.pn ++ pins))) S3 hg hm hv q hnn hdbg
      refine named (LM.here ?_)
      cases b with
      | false =>
        show wpAny _ X.A (handleBy (.ref a) X.env hds2) _ _ _
        exact ih (no rfl)
      | true =>
        refine codeAny_handlers_suite_as ?_
        refine HandSPX.lands_againZ fl3 fun h4 fl4 up4 => ?_
        have J4 : Inv X pins σ' H' { s' with heap := h4 } := J.landed nb fl4.1 ((up.trans up3).trans up4) os ag
        obtain ⟨oe4, vs4, he4, hz4, hd4⟩ := fl4.there
        refine store_ok (X := X.suite a ((a, oe4) :: (X.pn ++ pins))) (v := .ref a) (J4.suite he4 hd4 na nL nF) hN hi (.inl hln) rfl (fun s5 S5 => ?_) (.inr hln)
        refine wpAny_mono ((hsu a oe4 cls d (X.pn ++ pins) hz4 ⟨_, hd4⟩ nB).run [] s5 _ H' _ S5 (yes rfl a na J.len)) (fun f s6 hsp => ?_) (fun _ _ z => False.elim z)
        have gone : ∀ {σ6 : L2.St} {H6 : Hp} {Q : Shared → Prop}, Inv (X.suite a ((a, oe4) :: (X.pn ++ pins))) [] σ6 H6 s6 → (∀ s7, Inv X pins (σ6.set i none) H6 s7 → Q s7) →
            wpAny (model X.prog X.w) X.A (do bindName X.env n .none; unbindBehindTheSuite X.env n pos') (fun _ s7 => Q s7) X.xe s6 := fun S6 hq => gone_ok (S6.unsuite ok) hN hi hln hq
        cases f with
        | next => obtain ⟨σ6, H6, S6, q⟩ := hsp; exact gone S6 fun s7 J7 => ⟨_, _, J7, q⟩
        | brk => obtain ⟨σ6, H6, S6, q⟩ := hsp; exact gone S6 fun s7 J7 => ⟨_, _, J7, q⟩
        | cont => obtain ⟨σ6, H6, S6, q⟩ := hsp; exact gone S6 fun s7 J7 => ⟨_, _, J7, q⟩
        | ret u => obtain ⟨v6, σ6, H6, S6, r, q⟩ := hsp; exact gone S6 fun s7 J7 => ⟨_, _, _, J7, r, q⟩
  exact go hh w
end
section
variable {X : Cx} {k : Nat} {f a : Addr} {fd : FuncData} {oe : Obj} {pins : List (Addr × Obj)} {σ : L2.St} {H : Hp} {s : Shared} {Q : VK} {N : List Str} {pn x qual : Str} {params : Arguments} {body : List Stmt} {scope : Scope} {t : TS}
theorem run_pin (F : FunD X.K x qual params body scope [] [] f fd) (S : FnScope N [pn] scope) (hb : Binds X.K fd [pn] []) (hr : L2H.RoomH (k + 1) X.A) (I : Inv X pins σ H s) (hp : (a, oe) ∈ X.pn ++ pins)
    (hbody : ∀ (cd : Value) (A : Around) (outer : List Env) (s : Shared) (H : Hp), L2H.RoomH k (A.deeper (envOfC qual scope s.heap.objs.size f cd)) → PSs (L2H.cxH CX0 X.prog X.w X.K X.mg X.base N qual scope f cd A outer s H L2.E0 (a, oe)) body t)
    (h : t { nx := fun _ H' => Q .non H', rt := Q } (L2.start N [.ref a]) H) : wpAny (model X.prog X.w) X.A (call (.ref f) [.ref a]) (EP X pins σ Q) X.xe s := by
  obtain ⟨oc, od, dV, kV, doc, pm, an, cdv, ct, osl, rfl, lk, hcd, _, _⟩ := F.ex
  have P1 := I.pin (a, oe) hp
  have hpin : L2H.PinOk X.stack H s (a, oe) := ⟨P1.1, P1.2.1, fun hm => (List.mem_cons.mp (I.stkSub a hm)).elim P1.2.2.1 P1.2.2.2.1, P1.2.2.2.2⟩
  have e0 := I.env0
  have KX : X.K.In s.heap := e0.mod.kin.keeps fun b o e => (e0.bs b o e).1
  have lim : s.heap.NoLimit := e0.mod.nolimit.keeps fun b o e => (e0.bs b o e).1
  have b := hb s [.ref a] I.kIn rfl
  rw [List.append_nil] at b
  have hkind : ∀ y ∈ [pn].zip [Value.ref a], scope.names.lookup y.1 = some .local ∨ (scope.names.lookup y.1 = some .cell ∧ ((cellsFrom (s.heap.objs.size + 1) scope.names []).lookup y.1).isSome = true) := fun ⟨n, v⟩ hy => by
    rcases S.par n (List.of_mem_zip hy).1 with q | q
    · exact .inl q
    · exact .inr ⟨q, PySem.W.cellsFrom_some _ _ _ (.inl q)⟩
  have rc : codeAny (model X.prog X.w) X.A (.call (.ref f) ⟨[.ref a], []⟩) (CR CX0 X.stack X.prog X.w H s Q L2.E0) s := by
    refine codeAny_call_function hr.depth (KX _ _ lk) rfl S.co S.gen rfl (PySem.W.codeRec_of KX hcd) (b _ _ _ _ ?_)
    refine wpAny_newFunctionEnv_cells S.kind hkind fun env he s1 x => ?_
    subst he
    refine ⟨lim.keeps x.toInCall.keep, codeAny_func ?_⟩
    have J : Inv (L2H.cxH CX0 X.prog X.w X.K X.mg X.base N qual scope f cdv X.A X.stack s H L2.E0 (a, oe)) [] (L2.start N [.ref a]) H s1 := L2H.inv_startH (vs := [.ref a]) S hpin e0 rfl (.cons rfl .nil) x
    refine wpAny_mono ((hbody cdv X.A X.stack s H (hr.deeper _)).run [] s1 (L2.start N [.ref a]) H _ J h) (fun fl s' hs => ?_) fun e s' hs => hs
    have fin : ∀ {σ' : L2.St} {H' : Hp} {v : V} {u : Value}, Inv (L2H.cxH CX0 X.prog X.w X.K X.mg X.base N qual scope f cdv X.A X.stack s H L2.E0 (a, oe)) [] σ' H' s' → RelV v u → Q v H' → CE X.stack X.prog X.w H s Q u s' :=
      fun {σ' H' v u} J rv q => ⟨v, H', J.os, J.bare, J.base, J.hok, rv, q⟩
    cases fl with
    | ret u =>
      obtain ⟨v, σ', H', J, rv, q⟩ := hs
      exact fin J rv q
    | next =>
      obtain ⟨σ', H', J, q⟩ := hs
      exact fin (v := V.non) (u := Value.none) J rfl q
    | brk =>
      obtain ⟨_, _, _, q⟩ := hs
      exact False.elim q
    | cont =>
      obtain ⟨_, _, _, q⟩ := hs
      exact False.elim q
  refine wpAny_call (codeAny_mono rc fun r s' hq => ?_)
  cases r with
  | error e => exact hq.elim
  | ok fl =>
    cases fl with
    | ret u => exact I.after hq
    | next => exact False.elim hq
    | brk => exact False.elim hq
    | cont => exact False.elim hq
end
def tPin (K : PySem.W.Frag) (a : Addr) (cls : Value) (d : Option Addr) (n : Str) (te : TE) : TE := fun σ H Q => te σ H fun x H1 => ∃ (C dd : Addr) (fs : List (Str × V)) (v : V), x = .ref a ∧ cls = .ref C ∧ d = some dd ∧ XfC K C ∧ PySem.W.findIn K (.ref C) n = some none ∧ H1 dd = some (.xd fs) ∧ fs.lookup n = some v ∧ Q v H1
section
variable {X : Cx} {a : Addr} {oe : Obj} {cls : Value} {d : Option Addr}
theorem pe_pin {e : Expr} {te : TE} {pos : Pos} {n : Str} (hp : (a, oe) ∈ X.pn) (hz : Zc cls d oe) (hf : ∃ vs, oe.data = .fields vs) (he : PE X e te) (hb : attributeBase e n X.env (eval e X.env) = eval e X.env) :
    PE X (.Attribute e n pos) (tPin X.K a cls d n te) := by
  refine ⟨fun pins s σ H Q I h => ?_⟩
  refine attr_of hb (thn (he.run pins s σ H _ I h) fun u s1 hh => ?_)
  obtain ⟨x, H1, I1, rx, C, dd, fs, v, ex, ec, ed, T, hno, ea, l, q⟩ := hh
  subst ex
  obtain rfl : u = Value.ref a := rx
  subst ec
  subst ed
  obtain ⟨ha, _⟩ := I1.pin (a, oe) (List.mem_append_left _ hp)
  obtain ⟨vs, hd⟩ := hf
  have hx : ObjOk X.prog X.w H1 s1.heap dd (.xd fs) := I1.hok dd _ ea
  obtain ⟨mA, hns, hr⟩ := hx
  obtain ⟨od, ho, hl⟩ := lookIn_ns hns
  obtain ⟨u, hu, ru⟩ := RelO.some_of (v := v) (o := mA n) (by rw [← l]; exact hr n)
  have J : PySem.W.InstAt s1.heap a oe C (some od) := ⟨ha, hz.1, by unfold PySem.W.notCls; rw [hd] <;> rfl, by rw [hz.2]; exact ho⟩
  exact HandSPX.exc_get I1.kIn J T.ga T.gg T.exC (PySem.W.findObj_own T.hdC hno rfl (by rw [hl, hu])) (handed_of ru) ⟨v, H1, I1.tok _, ru, q⟩
def tFld (K : PySem.W.Frag) (a : Addr) (cls : Value) (d : Option Addr) (r : Str → Option Str) : TS := fun D σ H => σ[0]? = some (some (.ref a)) ∧ ∃ (C dd : Addr) (fs : List (Str × V)) (T : Str) (v : V), cls = .ref C ∧ d = some dd ∧ XfC K C ∧ PySem.W.findIn K (.ref C) ("tag" : Str) = some none ∧ H dd = some (.xd fs) ∧
  fs.lookup ("tag" : Str) = some (.str T) ∧ (match r T with | none => v = .non | some f => PySem.W.findIn K (.ref C) f = some none ∧ fs.lookup f = some v) ∧ ∀ H', (∀ b o, H b = some o → H' b = some o) → D.rt v H'
theorem pss_str {b : List Stmt} {t t' : TS} (h : PSs X b t) (q : ∀ D σ H, t' D σ H → t D σ H) : PSs X b t' := ⟨fun pins s σ H D I z => h.run pins s σ H D I (q D σ H z)⟩
theorem pa_cstr {es : List Expr} {ls : List Str} (c : CStr es ls) : PA X es (fun _ H Q => Q (ls.map V.str) H) := by
  induction c with
  | nil => exact pa_nil
  | cons r ih => exact pa_cons pe_str ih rfl
theorem inV_strs (T : Str) (ls : List Str) : L2.inV (.str T) (ls.map V.str) = ls.any fun z => z == T := by
  unfold L2.inV
  induction ls with
  | nil => rfl
  | cons z ls ih => rw [List.map_cons, List.any_cons, List.any_cons, ih]; rfl
theorem fld_ext {H H1 : Hp} (e : ∀ b o, H b = some o → H1 b = some o) {K : PySem.W.Frag} {r r' : Str → Option Str} {D : Ends} {σ : L2.St} (h : tFld K a cls d r D σ H)
    (hr : ∀ T, (∃ (C dd : Addr) (fs : List (Str × V)), cls = .ref C ∧ d = some dd ∧ H dd = some (.xd fs) ∧ fs.lookup ("tag" : Str) = some (.str T)) → r T = r' T) : tFld K a cls d r' D σ H1 := by
  obtain ⟨h1, C, dd, fs, T, v, h2, h3, h4, h5, h6, h7, h8, h9⟩ := h
  refine ⟨h1, C, dd, fs, T, v, h2, h3, h4, h5, e _ _ h6, h7, ?_, fun H' e' => h9 H' fun b o z => e' b o (e b o z)⟩
  rw [← hr T ⟨C, dd, fs, h2, h3, h6, h7⟩]; exact h8
theorem fb_in {es : List Expr} {ls : List Str} {en f : Str} {rest : List Stmt} {r : Str → Option Str} {p1 p2 p3 p4 p5 p6 p7 p8 : Pos} (hp : (a, oe) ∈ X.pn) (hz : Zc cls d oe) (hf : ∃ vs, oe.data = .fields vs) (hN : X.N[0]? = some en) (hv : Vis X.env.scope en)
    (hd : (en == ("__debug__" : Str)) = false) (hcd : (en == ("__classdict__" : Str)) = false) (hb : ∀ p n, attributeBase (.Name en p) n X.env (eval (.Name en p) X.env) = eval (.Name en p) X.env) (ces : CStr es ls) (h : PSs X rest (tFld X.K a cls d r)) (hl : ls.length ≤ 1000 := by decide) :
    PSs X (.If (.Compare (.Attribute (.Name en p1) "tag" p2) [.In] [.List es p3] p4) [.Return (some (.Attribute (.Name en p5) f p6)) p7] [] p8 :: rest) (tFld X.K a cls d fun T => if (ls.any fun z => z == T) = true then some f else r T) := by
  have hv1 : ∀ p, PE X (.Name en p) (tVar 0) := fun p => pe_var hN hv hd hcd
  refine pss_str (pss_cons (ps_if (pt_cmpR op_in_seq (pe_pin hp hz hf (hv1 p1) (hb _ _)) (pe_lst (pa_cstr ces)) rfl) (pss_one (ps_ret (pe_pin hp hz hf (hv1 p5) (hb _ _)))) pss_nil) h) fun D σ H h => ?_
  obtain ⟨h1, C, dd, fs, T, v, h2, h3, h4, h5, h6, h7, h8, h9⟩ := h
  refine ⟨.ref a, h1, C, dd, fs, .str T, rfl, h2, h3, h4, h5, h6, h7, ?_⟩
  refine ⟨by rw [List.length_map, sizeLine_eq]; omega, fun p hn => ⟨p, ls.map V.str, rfl, .inl (.inl (.inl upd_same)), rfl, by simp [flatV], _, rfl, ?_⟩⟩
  have ex : ∀ b o, H b = some o → upd H p (.lst (ls.map V.str)) b = some o := fun b o e => by rw [upd_ne (ne_of_none e hn)]; exact e
  rw [inV_strs]
  rw [show (if false = true then !(ls.any fun z => z == T) else ls.any fun z => z == T) = ls.any fun z => z == T from rfl]
  cases hc : ls.any fun z => z == T with
  | true =>
    dsimp only
    rw [if_pos rfl]
    have h8 : (match (if (ls.any fun z => z == T) = true then some f else r T) with | none => v = .non | some f => PySem.W.findIn X.K (.ref C) f = some none ∧ fs.lookup f = some v) := h8
    rw [hc, if_pos rfl] at h8
    exact ⟨.ref a, h1, C, dd, fs, v, rfl, h2, h3, h4, h8.1, ex _ _ h6, h8.2, h9 _ ex⟩
  | false =>
    dsimp only
    rw [if_neg Bool.false_ne_true]
    refine fld_ext ex (r := fun T => if (ls.any fun z => z == T) = true then some f else r T) ⟨h1, C, dd, fs, T, v, h2, h3, h4, h5, h6, h7, h8, h9⟩ fun T' ⟨C', dd', fs', k1, k2, k3, k4⟩ => ?_
    rw [h3] at k2; cases k2
    rw [h6] at k3; cases k3
    rw [h7] at k4; cases k4
    show (if (ls.any fun z => z == T) = true then some f else r T) = r T
    rw [hc]; rfl
theorem dec_str (T z : Str) : decide (V.str T = V.str z) = (z == T) := by
  by_cases h : z = T
  · subst h; simp
  · rw [beq_eq_false_iff_ne.mpr h]; exact decide_eq_false fun e => h (V.str.inj e).symm
theorem fb_eq {z en f : Str} {j : Nat} {rest : List Stmt} {r : Str → Option Str} {p1 p2 p3 p4 p5 p6 p7 p8 : Pos} (hp : (a, oe) ∈ X.pn) (hz : Zc cls d oe) (hf : ∃ vs, oe.data = .fields vs) (hN : X.N[0]? = some en) (hv : Vis X.env.scope en)
    (hd : (en == ("__debug__" : Str)) = false) (hcd : (en == ("__classdict__" : Str)) = false) (hb : ∀ p n, attributeBase (.Name en p) n X.env (eval (.Name en p) X.env) = eval (.Name en p) X.env) (h : PSs X rest (tFld X.K a cls d r)) :
    PSs X (.If (.Compare (.Attribute (.Name en p1) "tag" p2) [.Eq] [.Constant (.str z) j p3] p4) [.Return (some (.Attribute (.Name en p5) f p6)) p7] [] p8 :: rest) (tFld X.K a cls d fun T => if (z == T) = true then some f else r T) := by
  have hv1 : ∀ p, PE X (.Name en p) (tVar 0) := fun p => pe_var hN hv hd hcd
  refine pss_str (pss_cons (ps_if (pt_cmpR op_eq (pe_pin hp hz hf (hv1 p1) (hb _ _)) pe_str rfl) (pss_one (ps_ret (pe_pin hp hz hf (hv1 p5) (hb _ _)))) pss_nil) h) fun D σ H h => ?_
  obtain ⟨h1, C, dd, fs, T, v, h2, h3, h4, h5, h6, h7, h8, h9⟩ := h
  refine ⟨.ref a, h1, C, dd, fs, .str T, rfl, h2, h3, h4, h5, h6, h7, rfl, _, rfl, ?_⟩
  rw [dec_str]
  have h8 : (match (if (z == T) = true then some f else r T) with | none => v = .non | some f => PySem.W.findIn X.K (.ref C) f = some none ∧ fs.lookup f = some v) := h8
  cases hc : z == T with
  | true =>
    dsimp only
    rw [if_pos rfl]
    rw [hc, if_pos rfl] at h8
    exact ⟨.ref a, h1, C, dd, fs, v, rfl, h2, h3, h4, h8.1, h6, h8.2, h9 _ fun _ _ e => e⟩
  | false =>
    dsimp only
    rw [if_neg Bool.false_ne_true]
    rw [hc, if_neg Bool.false_ne_true] at h8
    exact ⟨h1, C, dd, fs, T, v, h2, h3, h4, h5, h6, h7, h8, h9⟩
theorem fb_end {z en f : Str} {j j2 : Nat} {p1 p2 p3 p4 p5 p6 p7 p8 p9 : Pos} (hp : (a, oe) ∈ X.pn) (hz : Zc cls d oe) (hf : ∃ vs, oe.data = .fields vs) (hN : X.N[0]? = some en) (hv : Vis X.env.scope en)
    (hd : (en == ("__debug__" : Str)) = false) (hcd : (en == ("__classdict__" : Str)) = false) (hb : ∀ p n, attributeBase (.Name en p) n X.env (eval (.Name en p) X.env) = eval (.Name en p) X.env) :
    PSs X [.Return (some (.IfExp (.Compare (.Attribute (.Name en p1) "tag" p2) [.Eq] [.Constant (.str z) j p3] p4) (.Attribute (.Name en p5) f p6) (.Constant .none j2 p7) p8)) p9] (tFld X.K a cls d fun T => if (z == T) = true then some f else none) := by
  have hv1 : ∀ p, PE X (.Name en p) (tVar 0) := fun p => pe_var hN hv hd hcd
  refine pss_str (pss_one (ps_ret (pe_ifExp (pt_cmpR op_eq (pe_pin hp hz hf (hv1 p1) (hb _ _)) pe_str rfl) (pe_pin hp hz hf (hv1 p5) (hb _ _)) pe_non))) fun D σ H h => ?_
  obtain ⟨h1, C, dd, fs, T, v, h2, h3, h4, h5, h6, h7, h8, h9⟩ := h
  refine ⟨.ref a, h1, C, dd, fs, .str T, rfl, h2, h3, h4, h5, h6, h7, rfl, _, rfl, ?_⟩
  rw [dec_str]
  have h8 : (match (if (z == T) = true then some f else none) with | none => v = .non | some f => PySem.W.findIn X.K (.ref C) f = some none ∧ fs.lookup f = some v) := h8
  cases hc : z == T with
  | true =>
    dsimp only
    rw [if_pos rfl]
    rw [hc, if_pos rfl] at h8
    exact ⟨.ref a, h1, C, dd, fs, v, rfl, h2, h3, h4, h8.1, h6, h8.2, h9 _ fun _ _ e => e⟩
  | false =>
    dsimp only
    rw [if_neg Bool.false_ne_true]
    rw [hc, if_neg Bool.false_ne_true] at h8
    have h8 : v = .non := h8
    subst h8
    exact h9 _ fun _ _ e => e
end
end Y
namespace Y
open PySem PySem.Spec PyProof.Rows L2
open LamX (GivesTo CodeO LamS lamCx lamEnv TabB Tabs ExtN tLam)
section
variable {X : Cx} {k i : Nat} {f a : Addr} {fd : FuncData} {oe : Obj} {N : List Str} {pn x qual fx en : Str} {params : Arguments} {body : List Stmt} {scope : Scope} {t : TS} {p q pos : Pos}
theorem pe_pincall (F : FunD X.K x qual params body scope [] [] f fd) (S : FnScope N [pn] scope) (hb : L2.Binds X.K fd [pn] []) (hr : L2H.RoomH (k + 1) X.A) (hp : (a, oe) ∈ X.pn) (hg : Gl X fx) (hm : X.mg fx = some (.ref f)) (hdb : (fx == ("__debug__" : Str)) = false)
    (hN : X.N[i]? = some en) (hv : Vis X.env.scope en) (hd : (en == ("__debug__" : Str)) = false) (hcd : (en == ("__classdict__" : Str)) = false)
    (hbody : ∀ (cd : Value) (A : Around) (outer : List Env) (s : Shared) (H : Hp), L2H.RoomH k (A.deeper (envOfC qual scope s.heap.objs.size f cd)) → PSs (L2H.cxH CX0 X.prog X.w X.K X.mg X.base N qual scope f cd A outer s H L2.E0 (a, oe)) body t) :
    PE X (.Call (.Name fx q) [.Name en p] [] pos) (fun σ H Q => σ[i]? = some (some (.ref a)) ∧ t { nx := fun _ H' => Q .non H', rt := Q } (L2.start N [.ref a]) H) := by
  refine ⟨fun pins s σ H Q I h => ?_⟩
  obtain ⟨h1, h2⟩ := h
  refine wpAny_Call_Name_kw (ld_glob I hg hm ?_ hdb)
  refine PySem.W.callWith_K (h₀ := X.base) I.ok.mod.kin F.kp (thn ((pa_cons (pe_var hN hv hd hcd) pa_nil rfl).run pos pins s σ H (fun vs H1 => vs = [.ref a] ∧ H1 = H) I ⟨.ref a, h1, rfl, rfl⟩) fun us s1 ⟨vs, H1, I1, r, q1, q2⟩ => ⟨I1.kIn, ?_⟩) rfl rfl
  subst q1
  subst q2
  obtain rfl : us = [.ref a] := by
    cases r with
    | cons r1 r2 =>
      cases r2
      have r1 : _ = Value.ref a := r1
      rw [r1]
  exact run_pin F S hb hr I1 (List.mem_append_left _ hp) hbody h2
end
section
variable {X : Cx} {q : Str} {Ng Nf : List Str} {ask en fn : Str} {sg sf : Scope} {g ff CS CM CN : Addr} {cdg : Value} {pf : Arguments} {bf : List Stmt} {fdf : FuncData}
theorem try_gives {j1 j2 : Nat} {x1 x2 x3 x4 : _} {p1 p2 p3 p4 q1 q2 q3 q4 q5 q6 q7 q8 q9 r1 r2 r3 r4 r5 r6 r7 r8 r9 s1 s2 s3 s4 s5 s6 s7 t1 t2 : Pos} (hN0 : Ng[0]? = some ask) (hN1 : Ng[1]? = some en) (nd : Ng.Nodup) (hst : ∀ f : Addr, L2.start Ng [V.ref f] = [some (V.ref f), none]) (hln : sg.names.lookup en = some .local)
    (gS : sg.names.lookup ("SayError" : Str) = some .globalImplicit) (gM : sg.names.lookup ("Missing" : Str) = some .globalImplicit) (gN : sg.names.lookup ("NothingLeft" : Str) = some .globalImplicit) (gF : sg.names.lookup ("_law_field" : Str) = some .globalImplicit)
    (mS : X.mg "SayError" = some (.ref CS)) (mM : X.mg "Missing" = some (.ref CM)) (mN : X.mg "NothingLeft" = some (.ref CN)) (mF : X.mg "_law_field" = some (.ref ff)) (de : (en == ("__debug__" : Str)) = false) (dc : (en == ("__classdict__" : Str)) = false)
    (Ff : FunD X.K "_law_field" "_law_field" pf bf sf [] [] ff fdf) (Sf : FnScope Nf [fn] sf) (Bf : L2.Binds X.K fdf [fn] []) (hsf : ∀ a : Addr, (L2.start Nf [V.ref a])[0]? = some (some (V.ref a)))
    (hbf : ∀ (a : Addr) (oe : Obj) (cls : Value) (d : Option Addr), Zc cls d oe → (∃ vs, oe.data = .fields vs) → ∀ (cd : Value) (A : Around) (outer : List Env) (s : Shared) (H : Hp), PSs (L2H.cxH CX0 X.prog X.w X.K X.mg X.base Nf "_law_field" sf ff cd A outer s H L2.E0 (a, oe)) bf (tFld X.K a cls d fieldN))
    (hr : Room 2 X.A) :
    GivesTo X Ng "_law_try" sg g cdg [.Try [.Return (some (.Tuple [.Constant (.str "value") j1 p1, .Call (.Name ask p2) [] [] p3] x1 p4)) q1]
      [.ExceptHandler (some (.Name "SayError" q2)) (some en) [.Return (some (.Tuple [.Attribute (.Name en q3) "tag" q4, .Call (.Name "_law_field" q5) [.Name en q6] [] q7] x2 q8)) q9] r1,
       .ExceptHandler (some (.Name "Missing" r2)) (some en) [.Return (some (.Tuple [.Attribute (.Name en r3) "tag" r4, .Call (.Name "_law_field" r5) [.Name en r6] [] r7] x3 r8)) r9] s1,
       .ExceptHandler (some (.Name "NothingLeft" s2)) (some en) [.Return (some (.Tuple [.Attribute (.Name en s3) "tag" s4, .Constant .none j2 s5] x4 s6)) s7] t1] [] [] t2] ask q (TTry X.K CS CM CN) := by
  intro f c' s H Q tl act hc h
  generalize hZ : (cxOf C8.CX0 X.prog X.w X.K X.mg X.base Ng "_law_try" sg g cdg X.A X.stack s H C8.E0).nox = Z
  have hZK : Z.K = X.K := by subst hZ; rfl
  have hrZ : L2H.RoomH 1 Z.A := by rw [← hZ]; exact L2H.roomH_of (hr.deeper _)
  have attr : ∀ (a : Addr) (pn : List (Addr × Obj)) (p : Pos) (n : Str), attributeBase (.Name en p) n (Z.suite a pn).env (eval (.Name en p) (Z.suite a pn).env) = eval (.Name en p) (Z.suite a pn).env := fun a pn p n => by rw [← hZ]; rfl
  have zN : Z.N[1]? = some en := by rw [← hZ]; exact hN1
  have zv : Vis Z.env.scope en := by rw [← hZ]; exact .inl hln
  have main : ∀ (a : Addr) (oe : Obj) (cls : Value) (d : Option Addr) (pn : List (Addr × Obj)) {u1 u2 u3 u4 u5 u6 u7 : Pos} {xx : _}, Zc cls d oe → (∃ vs, oe.data = .fields vs) →
      PSs (Z.suite a ((a, oe) :: pn)) [.Return (some (.Tuple [.Attribute (.Name en u1) "tag" u2, .Call (.Name "_law_field" u3) [.Name en u4] [] u5] xx u6)) u7]
        (tRet (tTup (tCons (tPin X.K a cls d "tag" (tVar 1)) (tCons (fun σ H Q => σ[1]? = some (some (.ref a)) ∧ tFld X.K a cls d fieldN { nx := fun _ H' => Q .non H', rt := Q } (L2.start Nf [.ref a]) H) tNil)))) := by
    intro a oe cls d pn u1 u2 u3 u4 u5 u6 u7 xx hz hf
    have e1 := pe_pin (X := Z.suite a ((a, oe) :: pn)) (pos := u2) (n := "tag") List.mem_cons_self hz hf (pe_var (pos := u1) zN zv de dc) (attr a _ _ _)
    have e2 : PE (Z.suite a ((a, oe) :: pn)) (.Call (.Name "_law_field" u3) [.Name en u4] [] u5) (fun σ H Q => σ[1]? = some (some (.ref a)) ∧ tFld X.K a cls d fieldN { nx := fun _ H' => Q .non H', rt := Q } (L2.start Nf [.ref a]) H) := by
      subst hZ
      exact pe_pincall (k := 0) (i := 1) Ff Sf Bf ⟨hrZ.dp, hrZ.un⟩ List.mem_cons_self gF mF (by decide) zN zv de dc fun cd A outer s H _ => hbf a oe cls d hz hf cd A outer s H
    have e1 : PE (Z.suite a ((a, oe) :: pn)) (.Attribute (.Name en u1) "tag" u2) (tPin X.K a cls d "tag" (tVar 1)) := by rw [← hZK]; exact e1
    exact pss_one (ps_ret (pe_tup (pa_cons e1 (pa_cons e2 pa_nil rfl) rfl)))
  have last : ∀ (a : Addr) (oe : Obj) (cls : Value) (d : Option Addr) (pn : List (Addr × Obj)), Zc cls d oe → (∃ vs, oe.data = .fields vs) →
      PSs (Z.suite a ((a, oe) :: pn)) [.Return (some (.Tuple [.Attribute (.Name en s3) "tag" s4, .Constant .none j2 s5] x4 s6)) s7]
        (tRet (tTup (tCons (tPin X.K a cls d "tag" (tVar 1)) (tCons (tC .non) tNil)))) := by
    intro a oe cls d pn hz hf
    have e1 := pe_pin (X := Z.suite a ((a, oe) :: pn)) (pos := s4) (n := "tag") List.mem_cons_self hz hf (pe_var (pos := s3) zN zv de dc) (attr a _ _ _)
    rw [← hZK]
    exact pss_one (ps_ret (pe_tup (pa_cons e1 (pa_cons pe_non pa_nil rfl) rfl)))
  have nmS : Names Z "SayError" (.ref CS) := by rw [← hZ]; exact ⟨gS, by decide, .inl mS⟩
  have nmM : Names Z "Missing" (.ref CM) := by rw [← hZ]; exact ⟨gM, by decide, .inl mM⟩
  have nmN : Names Z "NothingLeft" (.ref CN) := by rw [← hZ]; exact ⟨gN, by decide, .inl mN⟩
  have hs : Z.stack = Z.env :: Z.outer := by subst hZ; rfl
  have hfr : Z.env.frame = some Z.env.locals := by rw [← hZ]; rfl
  have hnd : Z.N.Nodup := by rw [← hZ]; exact nd
  have hk : Z.env.kindOf en = some .local := by rw [← hZ]; exact hln
  refine ⟨_, pss_one (ps_try_sel (X := Z) (i := 1) (n := en)
    (tb := fun W D σ H => ∃ Ech : XK, (∀ cls d σ' H', Ech cls d H' → W cls d σ' H') ∧ σ[0]? = some (some (.ref f)) ∧ H c' = some (CodeO c' q) ∧ tl Ech H (fun v H' => ([V.str "value", v] : List V).length ≤ sizeLine ∧ ∀ p, H' p = none → D.rt (.ref p) (upd H' p (.tup [.str "value", v]))))
    hs hfr hnd zN hk (fun W pn xe tk _ => ?_)
    (.cons nmS (fun a oe cls d pn hz hf _ => main a oe cls d pn hz hf) (.cons nmM (fun a oe cls d pn hz hf _ => main a oe cls d pn hz hf) (.cons nmN (fun a oe cls d pn hz hf _ => last a oe cls d pn hz hf) .nil)))), ?_⟩
  · refine ⟨fun pins s' σ H' D I h' => ?_⟩
    obtain ⟨Ech, hW, h1, h2, h3⟩ := h'
    have tk2 : Takes ((cxOf C8.CX0 X.prog X.w X.K X.mg X.base Ng "_law_try" sg g cdg X.A X.stack s H C8.E0).tr pn xe) W := by subst hZ; exact tk
    have hp := act W pn xe Ech p2 p3 tk2 hW
    have hp2 : PE (Z.tr pn xe) (.Call (.Name ask p2) [] [] p3) (fun σZ HZ Q => σZ[0]? = some (some (.ref f)) ∧ HZ c' = some (CodeO c' q) ∧ tl Ech HZ Q) := by subst hZ; exact hp
    have hs0 : PE (Z.tr pn xe) (.Constant (.str ("value" : Str)) j1 p1) (tC (.str "value")) := pe_str
    have hq := pss_one (ps_ret (pos := q1) (pe_tup (x1 := x1) (pos := p4) (pa_cons hs0 (pa_cons hp2 pa_nil rfl) rfl)))
    refine hq.run pins s' σ H' D I ?_
    exact ⟨h1, h2, h3⟩
  · have two : ∀ x y : V, ([x, y] : List V).length ≤ sizeLine := fun x y => by rw [sizeLine_eq]; show 2 ≤ _; omega
    have zl : Z.N.length = 2 := by
      rw [← hZ]
      have e := congrArg List.length (hst 0)
      unfold L2.start at e
      simp at e
      show Ng.length = 2
      omega
    have h0 : (L2.start Ng [V.ref f])[0]? = some (some (.ref f)) := by rw [hst]; rfl
    refine ⟨EchT X.K CS CM CN Q, fun cls d σ' H' w => ?_, h0, hc, h⟩
    obtain ⟨C, dd, fs, T, v, e1, e2, e3, e4, e5, e6, e7, e8⟩ := w
    subst e1
    subst e2
    have s1 : ∀ a : Addr, σ'.length = Z.N.length → (σ'.set 1 (some (.ref a)))[1]? = some (some (V.ref a)) := fun a hl => List.getElem?_set_self (by rw [hl, zl]; decide)
    have yes : (match fieldN T with | none => v = .non | some f => PySem.W.findIn X.K (.ref C) f = some none ∧ fs.lookup f = some v) → ∀ a, H' a = none → σ'.length = Z.N.length → tRet (tTup (tCons (tPin X.K a (.ref C) (some dd) "tag" (tVar 1)) (tCons (fun σ H Q => σ[1]? = some (some (.ref a)) ∧ tFld X.K a (.ref C) (some dd) fieldN { nx := fun _ H' => Q .non H', rt := Q } (L2.start Nf [.ref a]) H) tNil)))
        (ends1 1 { nx := fun _ H' => Q .non H', rt := Q }) (σ'.set 1 (some (.ref a))) H' := fun hv a ha hl =>
      ⟨.ref a, s1 a hl, C, dd, fs, .str T, rfl, rfl, rfl, e3, e4, e5, e6, s1 a hl, hsf a, C, dd, fs, T, v, rfl, rfl, e3, e4, e5, e6, hv, fun H2 ext => ⟨two _ _, fun p hp => e8 H2 ext p hp⟩⟩
    rw [← hZK] at e7
    rcases e7 with ⟨e7 | ⟨e7, e9⟩, hv⟩ | ⟨e7, e9, e10, hv⟩
    · exact ⟨true, e7, fun _ => yes (by rw [← hZK]; exact hv), fun z => by cases z⟩
    · exact ⟨false, e7, fun z => (by cases z), fun _ => ⟨true, e9, fun _ => yes (by rw [← hZK]; exact hv), fun z => by cases z⟩⟩
    · refine ⟨false, e7, fun z => (by cases z), fun _ => ⟨false, e9, fun z => (by cases z), fun _ => ⟨true, e10, fun _ a ha hl => ?_, fun z => by cases z⟩⟩⟩
      subst hv
      exact ⟨.ref a, s1 a hl, C, dd, fs, .str T, rfl, rfl, rfl, e3, e4, e5, e6, two _ _, fun p hp => e8 H' (fun _ _ z => z) p hp⟩
end
def tryE (tb : List (Nat × Str × Option Str)) (x : Exn) : Option P := match tb.lookup x.c with
  | some (T, none) => (match x.l with | [.str T'] => if T = T' then some (.tup [.str T, .non]) else none | _ => none)
  | some (T, some _) => (match x.l with | [y, .str T'] => if T = T' then some (.tup [.str T, y]) else none | _ => none)
  | none => none
def mTryL (tb : List (Nat × Str × Option Str)) (m : EM) : EM := fun σ st => match m σ st with
  | .ok (.p x) st1 => .ok (.p (.tup [.str "value", x])) st1
  | .ok (.r _) _ => .no
  | .exc x st1 => (match tryE tb x with | some p => .ok (.p p) st1 | none => .no)
  | .no => .no
section
variable {K : PySem.W.Frag} {cl : Cls} {X : Cx} {Wx : WX}
theorem gx_lam {A : Around} {outer : List Env} {s : Shared} {H : Hp} {E : XK} {scope : Scope} {f c' : Addr} {k : Nat} (g : GX K X) (hr : Room k (A.deeper (lamEnv X scope s.heap.objs.size f c'))) : GX K (lamCx X A outer s H E scope f c') :=
  ⟨g.hK, rfl, g.hN, by have := hr.un; show (A.deeper _).units + 65 < cLine; omega, hr.hd⟩
theorem tk_lam {A : Around} {outer : List Env} {s : Shared} {H : Hp} {E : XK} {scope : Scope} {f c' : Addr} : Takes (lamCx X A outer s H E scope f c') (WE E) := takes_of rfl rfl rfl rfl
theorem lookup_memG {α β : Type} [BEq α] [LawfulBEq α] {a : α} {b : β} : ∀ {l : List (α × β)}, l.lookup a = some b → (a, b) ∈ l
  | [], h => by cases h
  | (k, v) :: l, h => by
    rw [List.lookup_cons] at h
    split at h
    · rename_i e
      cases h
      rw [eq_of_beq e]
      exact List.mem_cons_self
    · exact List.mem_cons_of_mem _ (lookup_memG h)
theorem zip_tag {f : Option Str} {vs : List V} {T : Str} {y : V} (h : f = none ∧ vs = [.str T] ∨ ∃ g, f = some g ∧ (g == ("tag" : Str)) = false ∧ vs = [y, .str T]) : ((nsOf f).zip vs).lookup ("tag" : Str) = some (.str T) := by
  rcases h with ⟨rfl, rfl⟩ | ⟨g, rfl, hg, rfl⟩
  · rfl
  · have hg : (("tag" : Str) == g) = false := by
      have := beq_eq_false_iff_ne.mp hg
      exact beq_eq_false_iff_ne.mpr (Ne.symm this)
    simp [nsOf, List.lookup_cons, hg]
open LamX (CodeO ExtN TabB)
end
end Y
namespace Y
open PySem PySem.Spec PyProof.Rows L2
open LamX (CodeO ExtN TabB)
section
variable {M : Model} {A : Around} {E Q : Value → Shared → Prop} {s : Shared} {q : Str} {r : LamR} {env : Env} {dV : Value} {mg : Str → Option Value} {c Pt : Addr} {ps : Array Value} {pos : Pos} {fl : Nat} {clos : List (Str × Addr)}
theorem mkl_new (hcl : closureFor r.scope env = pure clos) (hge : env.globals = mainGlobals) (hg : s.heap.Ns mainGlobals mg) (hcode : env.code = .ref c) (C : PySem.W.CodeHd s.heap c Pt) (hP : s.heap.get? Pt = some (PySem.W.tabObj ps)) (ht : TriplesOk ps.toList)
    (hnf : codeAmong pos ps.toList = none) (hgP : mainGlobals ≠ Pt) (hb : s.heap.BuiltinsAt mg Pt)
    (h : ∀ (c' : Addr) (ct : Value) (h' : Heap) (tk : Nat), Heap.ExtBut Pt s.heap h' → s.heap.objs.size ≤ c' → c' < h'.objs.size → h'.CodeRec (.ref c') q → h'.get? Pt = some (PySem.W.tabObj (ps ++ #[rawInt pos.line, rawInt pos.col, .ref c'])) →
      Q (.ref h'.objs.size) { s with heap := h'.push (lamO r q clos ((mg "__name__").getD .none) (.ref c') ct dV), toks := tk }) :
    wpAny M A (makeTail "<lambda>" q r.params (.expr r.body) r.scope env dV .none none pos fl) Q E s := by
  obtain ⟨bm, ob, g1, g2, _, g3, g4, g5, g6, g7⟩ := hb
  unfold makeTail
  rw [hcl, hge]
  refine wpAny_bind (wpAny_pure ?_)
  have main : ∀ (ct : Value) (h1 : Heap), (∀ b o, s.heap.get? b = some o → h1.get? b = some o) → s.heap.objs.size ≤ h1.objs.size →
      wpAny M A (do
        let cd ← functionCode env pos fl "<lambda>" q r.params r.scope (.expr r.body)
        let bl ← builtinsFor mainGlobals env.builtins
        let nm ← nsGet mainGlobals "__name__"
        let dc ← (pure Value.none : Sem Value)
        newObj (.type "function") (.func { name := "<lambda>", qualname := q, params := r.params, body := .expr r.body, scope := r.scope, globals := mainGlobals, closure := clos, closureTuple := ct, code := cd, builtins := bl, defaults := dV, kwdefaults := .none, annotations := none, pyModule := nm.getD .none, doc := dc }))
        Q E { s with heap := h1 } := by
    intro ct h1 kp sz
    refine wpAny_bind (wpAny_functionCodeX (s := { s with heap := h1 }) hcode ((C.keeps kp).code (kp _ _ hP) ht) ((C.keeps kp).tab (kp _ _ hP)) hnf fun c' h' tk x1 x2 x3 _ x4 x5 _ => ?_)
    have gg : Heap.Ns h' mainGlobals mg := (hg.keeps kp).extBut x1 hgP
    refine wpAny_bind (wpAny_builtinsFor gg g1 g2 (x1 _ _ g3 (kp _ _ g4)) g5 g6 g7 ?_)
    refine wpAny_bind (wpAny_nsGet gg ?_)
    refine wpAny_bind (wpAny_pure (wpAny_newObj_type (h c' ct h' tk (fun b o nb e => x1 b o nb (kp b o e)) (Nat.le_trans sz x2) x3 x4 x5.2) (by size_fits)))
  cases clos with
  | nil =>
    simp only [List.isEmpty_nil, if_true]
    exact wpAny_bind (wpAny_pure (main .none s.heap (fun _ _ e => e) (Nat.le_refl _)))
  | cons z l =>
    simp only [List.isEmpty_cons, Bool.false_eq_true, if_false]
    exact wpAny_bind (wpAny_newTextTuple (main _ _ (fun b o e => Heap.get?_push_of_some _ e) (by rw [Heap.size_push]; omega)))
theorem mkl_hit {cv : Value} (hcl : closureFor r.scope env = pure clos) (hge : env.globals = mainGlobals) (hg : s.heap.Ns mainGlobals mg) (hcode : env.code = .ref c) (C : PySem.W.CodeHd s.heap c Pt) (hP : s.heap.get? Pt = some (PySem.W.tabObj ps)) (ht : TriplesOk ps.toList)
    (hf : codeAmong pos ps.toList = some cv) (hb : s.heap.BuiltinsAt mg Pt)
    (h : ∀ (ct : Value) (h' : Heap), (∀ b o, s.heap.get? b = some o → h'.get? b = some o) → s.heap.objs.size ≤ h'.objs.size →
      Q (.ref h'.objs.size) { s with heap := h'.push (lamO r q clos ((mg "__name__").getD .none) cv ct dV) }) :
    wpAny M A (makeTail "<lambda>" q r.params (.expr r.body) r.scope env dV .none none pos fl) Q E s := by
  obtain ⟨bm, ob, g1, g2, _, g3, g4, g5, g6, g7⟩ := hb
  unfold makeTail
  rw [hcl, hge]
  refine wpAny_bind (wpAny_pure ?_)
  have main : ∀ (ct : Value) (h1 : Heap), (∀ b o, s.heap.get? b = some o → h1.get? b = some o) → s.heap.objs.size ≤ h1.objs.size →
      wpAny M A (do
        let cd ← functionCode env pos fl "<lambda>" q r.params r.scope (.expr r.body)
        let bl ← builtinsFor mainGlobals env.builtins
        let nm ← nsGet mainGlobals "__name__"
        let dc ← (pure Value.none : Sem Value)
        newObj (.type "function") (.func { name := "<lambda>", qualname := q, params := r.params, body := .expr r.body, scope := r.scope, globals := mainGlobals, closure := clos, closureTuple := ct, code := cd, builtins := bl, defaults := dV, kwdefaults := .none, annotations := none, pyModule := nm.getD .none, doc := dc }))
        Q E { s with heap := h1 } := by
    intro ct h1 kp sz
    refine wpAny_bind (wpAny_functionCode_hit (s := { s with heap := h1 }) hcode ((C.keeps kp).code (kp _ _ hP) ht) hf ?_)
    refine wpAny_bind (wpAny_builtinsFor (s := { s with heap := h1 }) (hg.keeps kp) g1 g2 (kp _ _ g4) g5 g6 g7 ?_)
    refine wpAny_bind (wpAny_nsGet (s := { s with heap := h1 }) (hg.keeps kp) ?_)
    exact wpAny_bind (wpAny_pure (wpAny_newObj_type (h ct h1 kp sz) (by size_fits)))
  cases clos with
  | nil =>
    simp only [List.isEmpty_nil, if_true]
    exact wpAny_bind (wpAny_pure (main .none s.heap (fun _ _ e => e) (Nat.le_refl _)))
  | cons z l =>
    simp only [List.isEmpty_cons, Bool.false_eq_true, if_false]
    exact wpAny_bind (wpAny_newTextTuple (main _ _ (fun b o e => Heap.get?_push_of_some _ e) (by rw [Heap.size_push]; omega)))
end
theorem lamS3_by {N : List Str} {sc scope : Scope} (h : lamS3B N sc scope = true) : LamS3 N sc scope := by
  unfold lamS3B at h
  simp only [Bool.and_eq_true, Bool.or_eq_true, Bool.not_eq_true', decide_eq_true_eq, decide_eq_false_iff_not, List.all_eq_true] at h
  obtain ⟨⟨⟨h1, h2⟩, h3⟩, h4⟩ := h
  refine ⟨h1, h2, h3, fun y hy => ⟨(h4 y hy).1.1, fun e => ?_⟩, fun y hy e => ?_⟩
  · rcases (h4 y hy).1.2 with z | z
    · exact absurd e z
    · intro hm
      rw [List.contains_iff_mem.mpr hm] at z; cases z
  · rcases (h4 y hy).2 with (z | z) | z
    · exact absurd e z
    · exact .inl z
    · exact .inr z
theorem wpAny_evalAll_nil_opt {M : Model} {A : Around} {E : Value → Shared → Prop} {s : Shared} {Q : List (Option Value) → Shared → Prop} (h : Q [] s) : wpAny M A (evalAllOpt []) Q E s := wpAny_pure h
def DefOk (r : LamR) (env : Env) : Prop := (r.dfl = false ∧ defaultsOf r.params env = ([], [])) ∨ (r.dfl = true ∧ r.params.kwonlyargs = [] ∧ ∃ j dp, defaultsOf r.params env = ([eval (.Constant (.int 0) j dp) env], []))
section
variable {K : PySem.W.Frag} {cl : Cls} {X : Cx} {Wx : WX} {E0 : En} {ρ : List Addr} {G : Hp} {σ : Sg} {τ : L2.St} {st : List Cell} {H : Hp}
theorem exq_nt {a : Addr} {oe : Obj} : NT (exq a oe) := fun _ z => by unfold exq at z; cases z
theorem exq_ok {P : Program} {w : World} {H : Hp} {h : Heap} {a : Addr} {oe : Obj} (e : h.get? a = some oe) : ObjOk P w H h a (exq a oe) := ⟨e, ⟨oe, e⟩, fun _ _ p st => st _ p⟩
def mLam (j i : Nat) : EM := fun _ st => .ok (.p (.lam j i)) st
theorem lam_tail {j i : Nat} {r : LamR} {q : Str} {c Pt : Addr} {pos : Pos} {fl : Nat} {dV : Value} {s : Shared} {pins : List (Addr × Obj)} {Q : VK} {Z : ZX} {E : Value → Shared → Prop} (I : Inv X pins τ H s) (R : Rel K cl E0 ρ G st H) (hr : cl.lm[i]? = some r) (hf : cl.fr[j]? = some (q, X.env.cells)) (TB : TabB X.base X.mg c Pt) (hcode : X.env.code = .ref c)
    (hm : (Pt, q) ∈ cl.tb) (hu : ∀ p ∈ cl.tb, p.1 = Pt → p.2 = q) (hfree : ∀ y ∈ r.scope.names, y.2 = .free → ∃ c, X.env.cells.lookup y.1 = some c) (hdV : r.dfl = false ∧ dV = .none ∨ r.dfl = true ∧ ∃ T, dV = .ref T ∧ G T = some (.tup [.int 0]))
    (h : Aft (bs K cl E0) (bs K cl E0).RW ρ G (.ok (.p (.lam j i)) st) Q Z) : wpAny (model X.prog X.w) X.A (makeTail "<lambda>" q r.params (.expr r.body) r.scope X.env dV .none none pos fl) (EP X pins τ Q) E s := by
  obtain ⟨ps, hP, ht, ha⟩ := R.tabs _ hm
  have bP : s.heap.BuiltinsAt X.mg Pt := TB.bm.keeps I.bk
  have hP' : s.heap.get? Pt = some { cls := .none, data := .fields ps } := I.hok Pt _ hP
  have fin : ∀ (f c' : Addr) (pm ct : Value) (G1 H1 : Hp) (s1 : Shared), Sub G G1 → Rel K cl E0 ρ G1 st H1 → Inv X pins τ H1 s1 → H1 f = none → s1.heap.objs.size = f → G1 c' = some (CodeO c' q) → ∀ tk, EP X pins τ Q (.ref f) { s1 with heap := s1.heap.push (lamO r q (cloFrom X.env.cells r.scope.names []) pm (.ref c') ct dV), toks := tk } := by
    intro f c' pm ct G1 H1 s1 sg R1 I1 hn hs hc tk
    have ho : (s1.heap.push (lamO r q (cloFrom X.env.cells r.scope.names []) pm (.ref c') ct dV)).get? f = some (lamO r q (cloFrom X.env.cells r.scope.names []) pm (.ref c') ct dV) := by
      rw [← hs]; exact Heap.get?_push_size _ rfl
    have I2 : Inv X pins τ (upd H1 f (exq f (lamO r q (cloFrom X.env.cells r.scope.names []) pm (.ref c') ct dV))) { s1 with heap := s1.heap.push (lamO r q (cloFrom X.env.cells r.scope.names []) pm (.ref c') ct dV), toks := tk } :=
      I1.laid (fun b o e => Heap.get?_push_of_some _ e) (Nat.le_of_eq hs) (exq_ok ho)
    have R2 := R1.froze (o := exq f (lamO r q (cloFrom X.env.cells r.scope.names []) pm (.ref c') ct dV)) hn exq_nt
    have s2 : Sub G1 (upd G1 f (exq f (lamO r q (cloFrom X.env.cells r.scope.names []) pm (.ref c') ct dV))) := Sub.new (R1.gnone hn)
    refine ⟨.ref f, _, I2, rfl, h ρ _ _ (.ref f) (List.prefix_refl _) (sg.trans s2) R2 ?_⟩
    refine RP.lam hr hf upd_same (s2 _ _ hc) ?_
    rcases hdV with hd | ⟨hd, T, e1, e2⟩
    · exact .inl hd
    · exact .inr ⟨hd, T, e1, s2 _ _ (sg _ _ e2)⟩
  cases hc : codeAmong pos ps.toList with
  | none =>
    refine mkl_new (mg := X.mg) (c := c) (Pt := Pt) (ps := ps) (closure_ok hfree) I.ok.glob (I.mod.glob.keeps I.bk) hcode (TB.code.keeps I.bk) hP' ht hc TB.gP bP fun c' ct h' tk x1 x2 x3 x4 x5 => ?_
    obtain ⟨c2, oc, vs, t, e2, hoc, hd, hv⟩ := x4
    cases e2
    have nC : H c' = none := I.hok.fresh x2
    have I1 : Inv X pins τ (upd (upd H Pt (.tbl (ps ++ #[rawInt pos.line, rawInt pos.col, .ref c']))) c' (CodeO c' q)) { s with heap := h', toks := tk } :=
      LamX.inv_table (more := #[rawInt pos.line, rawInt pos.col, .ref c']) I hP (fun b o hb e => x1 b o hb e) x5 x2 ⟨oc, vs, t, hoc, hd, hv⟩
    have eL : (ps ++ #[rawInt pos.line, rawInt pos.col, .ref c']).toList = ps.toList ++ [rawInt pos.line, rawInt pos.col, .ref c'] := by simp
    have sg : Sub G (upd G c' (CodeO c' q)) := Sub.new (R.gnone nC)
    have R1 := R.code (q := q) (ps' := ps ++ #[rawInt pos.line, rawInt pos.col, .ref c']) hP nC hu (by rw [eL]; exact PySem.TriplesOk_snoc _ _ _ _ ht) fun p' cv hcv => by
      rw [eL] at hcv
      rcases LamX.among_app _ ht hcv with z | z
      · obtain ⟨c0, e1, e2⟩ := ha p' cv z
        exact ⟨c0, e1, sg _ _ e2⟩
      · exact ⟨c', z, upd_same⟩
    exact fin h'.objs.size c' _ ct _ _ { s with heap := h', toks := tk } sg R1 I1 (I1.hok.fresh (Nat.le_refl _)) rfl upd_same tk
  | some cv =>
    obtain ⟨c', e, hco⟩ := ha pos cv hc
    subst e
    refine mkl_hit (mg := X.mg) (c := c) (Pt := Pt) (ps := ps) (closure_ok hfree) I.ok.glob (I.mod.glob.keeps I.bk) hcode (TB.code.keeps I.bk) hP' ht hc bP fun ct h' hx hsz => ?_
    have I1 : Inv X pins τ H { s with heap := h', toks := s.toks } := I.kept hx
    exact fin h'.objs.size c' _ ct G H { s with heap := h', toks := s.toks } (Sub.refl _) R I1 (I1.hok.fresh (Nat.le_refl _)) rfl hco s.toks
theorem se_lam {j i : Nat} {r : LamR} {c Pt : Addr} {pos : Pos} (gx : GX K X) (hr : cl.lm[i]? = some r) (hf : cl.fr[j]? = some (X.env.qual ++ ("<lambda>" : Str), X.env.cells)) (TB : TabB X.base X.mg c Pt) (hcode : X.env.code = .ref c) (hm : (Pt, X.env.qual ++ ("<lambda>" : Str)) ∈ cl.tb) (hu : ∀ p ∈ cl.tb, p.1 = Pt → p.2 = X.env.qual ++ ("<lambda>" : Str))
    (L : lamS3B X.N X.env.scope r.scope = true) (hdef : DefOk r X.env) : SE K cl X Wx (mLam j i) (.Lambda r.params r.body r.scope pos) := by
  refine ⟨fun E0 ρ G σ st τ H Q R S h pins s I => ?_⟩
  have L := lamS3_by L
  have hfree : ∀ y ∈ r.scope.names, y.2 = .free → ∃ c, X.env.cells.lookup y.1 = some c := fun y hy e => by
    rcases L.free y hy e with k | k
    · exact I.ok.has _ (.inl k)
    · exact I.ok.has _ (.inr k)
  rcases hdef with ⟨hd, hdf⟩ | ⟨hd, hk, jj, dp, hdf⟩
  · refine PySem.W.kla_eval hdf ?_
    rw [makeFunction_eq]
    simp only [List.zip_nil_right, List.filterMap_nil, List.isEmpty_nil, if_true, pure_bind]
    exact lam_tail I R hr hf TB hcode hm hu hfree (.inl ⟨hd, rfl⟩) h
  · rw [arm_eval_Lambda, hdf]
    show wpAny _ _ (do let dv ← evalAll [eval (.Constant (.int 0) jj dp) X.env]; let kdv ← holding dv (evalAllOpt []); makeFunction "<lambda>" (X.env.qual ++ ("<lambda>" : Str)) r.params (.expr r.body) r.scope X.env dv kdv [] pos pos.line) _ _ _
    refine wpAny_bind (wpAny_evalAll_cons (thn (pe_int.run pins s τ H (fun v H1 => v = .int 0 ∧ H1 = H) I ⟨rfl, rfl⟩) fun u s1 ⟨v, H1, I1, rv, q1⟩ => wpAny_evalAll_nil ?_))
    obtain ⟨rfl, rfl⟩ := q1
    refine wpAny_bind (wpAny_holding (wpAny_evalAll_nil_opt ?_))
    rw [makeFunction_eq, hk]
    simp only [List.zip_nil_left, List.filterMap_nil, List.isEmpty_nil, List.isEmpty_cons, Bool.false_eq_true, if_false, if_true, pure_bind]
    refine wpAny_bind (wpAny_newTextTuple ?_)
    have I2 : Inv X pins τ (upd H1 s1.heap.objs.size (.tup [.int 0])) { s1 with heap := s1.heap.push { cls := .type "tuple", data := .seq [u].toArray } } :=
      I1.laid (t' := s1.toks) (fun b o e => Heap.get?_push_of_some _ e) (Nat.le_refl _) ⟨by rw [sizeLine_eq]; decide, [u], .cons rv .nil, _, Heap.get?_push_size _ rfl, rfl, _, rfl⟩
    have hn : H1 s1.heap.objs.size = none := I1.hok.fresh (Nat.le_refl _)
    have R2 := R.froze (o := .tup [.int 0]) hn
    exact lam_tail I2 R2 hr hf TB hcode hm hu hfree (.inr ⟨hd, _, rfl, upd_same⟩) (Aft.mono (List.prefix_refl _) (Sub.new (R.gnone hn)) h)
end
end Y
namespace Y
open PySem PySem.Spec PyProof.Rows L2
open LamX (CodeO ExtN TabB lamCx lamEnv GivesTo)
section
variable {X X0 : Cx} {pins : List (Addr × Obj)} {σ : L2.St} {H HZ : Hp} {s s1 : Shared}
theorem Inv.cfc (I : Inv X pins σ H s) : CFc X.N X.env.scope X.env.cells σ s.heap H := by
  refine ⟨fun x c e => ⟨I.cell x c e, I.freeC x c e⟩, fun i x v e1 e2 k => ?_, I.ok.inj, I.ok.has, I.len⟩
  obtain ⟨m, hn, hl⟩ := I.loc
  obtain ⟨u, r, q⟩ := hl i x v e1 e2 (.inr k)
  rcases q with ⟨k', _⟩ | ⟨_, c, e, z⟩
  · have k' : X.env.scope.names.lookup x = some .local := k'
    rcases k with k | k <;> rw [k'] at k <;> cases k
  · exact ⟨u, c, r, e, z⟩
theorem lam_start3 {A : Around} {outer : List Env} {E : XK} {scope : Scope} {f c' : Addr} {h₁ : Heap} {tk : Nat} {m : Str → Option Value} (cf : CFc X.N X.env.scope X.env.cells σ s1.heap HZ) (L : LamS3 X.N X.env.scope scope) (e0 : Env0 X.prog X.w X.K X.mg X.base A outer s1 HZ) (hd : A.handled = none)
    (hns : h₁.Ns s1.heap.objs.size m) (kp : ∀ b o, s1.heap.get? b = some o → h₁.get? b = some o) : Inv (lamCx X A outer s1 HZ E scope f c') [] σ HZ { s1 with heap := h₁, toks := tk } := by
  have cm : ∀ {y c}, (cloFrom X.env.cells scope.names []).lookup y = some c → X.env.cells.lookup y = some c := fun {y c} e => by
    rcases cloFrom_mem (PySem.mem_of_lookup e) with hm | ⟨h1, h2⟩
    · cases hm
    · obtain ⟨c1, hc⟩ := cf.has _ (by
        rcases L.free _ h1 rfl with k | k
        · exact .inl k
        · exact .inr k)
      have hc : X.env.cells.lookup y = some c1 := hc
      have e2 : c = c1 := by rw [h2, hc] <;> rfl
      rw [e2]; exact hc
  have look : ∀ {y}, scope.names.lookup y = some .free → ∃ c, (cloFrom X.env.cells scope.names []).lookup y = some c := fun {y} hl =>
    mem_lookup (cloFrom_has (cells := X.env.cells) (acc := []) (PySem.mem_of_lookup hl))
  have cl' := cf.kept kp
  have noA : ∀ b : Addr, b ∉ (lamCx X A outer s1 HZ E scope f c').ex := fun b z => absurd (show b ∈ ([] : List Addr) from z) (by simp)
  refine ⟨⟨e0.mod, L.kind, rfl, rfl, Nat.le_refl _, fun y z c e1 e2 => cf.inj y z c (cm e1) (cm e2), fun y hy => ?_, fun y c z _ => ?_, fun _ => hd, Around.frames_deeper e0.frames, .inr ⟨rfl, rfl⟩, fun b z => absurd z (noA b), e0.bs, e0.bsz, fun b _ _ => noA b,
      fun b z => absurd z (noA b), e0.funs, e0.frf⟩,
    rfl, e0.bare, Un.kept kp, ⟨m, hns, fun i y v e1 e2 e3 => ?_⟩, fun y c e => (cl'.at_ y c (cm e)).1, e0.hok.fresh (Nat.le_refl _), fun y c e => (cl'.at_ y c (cm e)).2, fun q hq => absurd (show q ∈ ([] : List (Addr × Obj)) ++ [] from hq) (by simp), e0.hok.kept kp, cf.len⟩
  · have hy : scope.names.lookup y = some .cell ∨ scope.names.lookup y = some .free := hy
    rcases hy with hy | hy
    · exact absurd rfl (L.own _ (PySem.mem_of_lookup hy)).1
    · exact look hy
  · have z : false = true := z
    cases z
  · have e3 : Vis scope y := e3
    have e1 : X.N[i]? = some y := e1
    rcases e3 with k | k | k
    · exact absurd (List.mem_of_getElem? e1) ((L.own _ (PySem.mem_of_lookup k)).2 rfl)
    · exact absurd rfl (L.own _ (PySem.mem_of_lookup k)).1
    · obtain ⟨u, c, r, e, z⟩ := cl'.val i y v e1 e2 (L.free _ (PySem.mem_of_lookup k) rfl)
      obtain ⟨c2, h2⟩ := look k
      have c1 := cm h2
      rw [e] at c1
      cases c1
      exact ⟨u, r, .inr ⟨.inr k, c, h2, z⟩⟩
def DflAt (r : LamR) (dV : Value) (H : Hp) : Prop := r.dfl = false ∧ dV = .none ∨ r.dfl = true ∧ ∃ T, dV = .ref T ∧ H T = some (.tup [.int 0])
theorem lam_act {CXg : CXT} {Eg : XK} {Ng : List Str} {qg : Str} {sg : Scope} {g f c' : Addr} {cdg pm ct dV : Value} {r : LamR} {q : Str} {k i : Nat} {a : Str} {pn : List (Addr × Obj)} {xe : Value → Shared → Prop} {W : WX} {E : XK} {tb : TE} {p1 p2 : Pos}
    (sm : X0.prog = X.prog ∧ X0.w = X.w ∧ X0.K = X.K ∧ X0.mg = X.mg ∧ X0.base = X.base) (hq : q = X0.env.qual ++ ("<lambda>" : Str)) (cf : CFc X0.N X0.env.scope X0.env.cells σ s.heap H) (L : LamS3 X0.N X0.env.scope r.scope) (hb : BindD r)
    (tk : Takes ((cxOf CXg X.prog X.w X.K X.mg X.base Ng qg sg g cdg X.A X.stack s H Eg).tr pn xe) W) (hW : ∀ cls d σ' H', E cls d H' → W cls d σ' H') (hr : Room (k + 1) (X.A.deeper (envOfC qg sg s.heap.objs.size g cdg)))
    (hbody : ∀ (A : Around) (outer : List Env) (s : Shared) (H : Hp), Room k (A.deeper (lamEnv X0 r.scope s.heap.objs.size f c')) → PE (lamCx X0 A outer s H E r.scope f c') r.body tb)
    (hN : Ng[i]? = some a) (hv : Vis sg a) (hd : (a == ("__debug__" : Str)) = false := by decide) (hcd : (a == ("__classdict__" : Str)) = false := by decide) :
    PE ((cxOf CXg X.prog X.w X.K X.mg X.base Ng qg sg g cdg X.A X.stack s H Eg).tr pn xe) (.Call (.Name a p1) [] [] p2)
      (fun σZ HZ Q => σZ[i]? = some (some (.ref f)) ∧ HZ c' = some (CodeO c' q) ∧ HZ f = some (exq f (lamO r q (cloFrom X0.env.cells r.scope.names []) pm (.ref c') ct dV)) ∧ DflAt r dV HZ ∧ tb σ HZ Q) := by
  subst hq
  obtain ⟨e1, e2, e3, e4, e5⟩ := sm
  refine ⟨fun pinsZ sZ σZ HZ Q IZ h => ?_⟩
  obtain ⟨hs, hc, hf, hdv, ht⟩ := h
  refine wpAny_Call_Name_kw (thn ((pe_var (pos := p1) (i := i) hN hv hd hcd).run pinsZ sZ σZ HZ (fun v H1 => v = .ref f ∧ H1 = HZ) IZ ⟨.ref f, hs, rfl, rfl⟩) fun u s1 ⟨v, H1, I1, r1, q1⟩ => ?_)
  obtain ⟨ev, eH⟩ := q1
  subst ev
  rw [eH] at I1
  obtain rfl : u = Value.ref f := r1
  have of1 := exq_at I1.hok hf
  refine PySem.W.callWith_F0 ⟨_, _, _, _, of1⟩ ?_
  have un : Un (frs X.stack) [] H HZ s.heap s1.heap := I1.base
  have cf1 := cf.un un fun _ _ _ z => by cases z
  obtain ⟨⟨oc, vs, t, hoc, hdc, hvc⟩, _, _⟩ := I1.hok c' _ hc
  have go : ∀ binds : List (Str × Value), (∀ y ∈ binds, r.scope.names.lookup y.1 = some .local) → wpAny (model X.prog X.w) (X.A.deeper (envOfC qg sg s.heap.objs.size g cdg)).in1 (newFunctionEnv r.scope mainGlobals (cloFrom X0.env.cells r.scope.names []) binds (X0.env.qual ++ ("<lambda>" : Str) ++ ".<locals>.") (some f) (.ref c') none builtinsNs)
      (fun env s₂ => s₂.heap.NoLimit ∧ codeAny (model X.prog X.w) (X.A.deeper (envOfC qg sg s.heap.objs.size g cdg)) (.expr r.body env) (CR (L2.CX X.prog X.w) (envOfC qg sg s.heap.objs.size g cdg :: X.stack) X.prog X.w HZ s1 Q E) s₂)
      (fun e s' => CR (L2.CX X.prog X.w) (envOfC qg sg s.heap.objs.size g cdg :: X.stack) X.prog X.w HZ s1 Q E (.error e) s') s1 := by
    intro binds hbl
    refine wpAny_newFunctionEnv (fun y hy => (L.own y hy).1) hbl (fun h₁ hns hsb => ⟨I1.nolimit.fresh _ hsb, ?_⟩) L.kind
    show codeAny _ _ (.expr r.body (lamEnv X0 r.scope s1.heap.objs.size f c')) _ _
    have kp : ∀ b o, s1.heap.get? b = some o → h₁.get? b = some o := fun b o e => hsb.extBut b o (Nat.ne_of_lt (Heap.lt_size e)) (Heap.get?_push_of_some _ e)
    have J : Inv (lamCx X0 (X.A.deeper (envOfC qg sg s.heap.objs.size g cdg)) (envOfC qg sg s.heap.objs.size g cdg :: X.stack) s1 HZ E r.scope f c') [] σ HZ { s1 with heap := h₁, toks := s1.toks + binds.length } :=
      lam_start3 cf1 L (by rw [e1, e2, e3, e4, e5]; exact I1.env0) hr.hd hns kp
    have hbd := (hbody _ _ s1 HZ (hr.deeper _)).run [] _ _ HZ Q J ht
    refine PySem.W.kla_codeExpr ?_
    rw [← e1, ← e2]
    refine wpAny_mono hbd (fun v s' hq => ?_) fun e s' hq => ?_
    · obtain ⟨w', H', J', rv, q⟩ := hq
      have os := J'.os
      exact ⟨w', H', J'.os, J'.bare, J'.base, by have := J'.hok; exact this, rv, q⟩
    · exact hq
  have rc : codeAny (model X.prog X.w) (X.A.deeper (envOfC qg sg s.heap.objs.size g cdg)) (.call (.ref f) ⟨[], []⟩) (CR (L2.CX X.prog X.w) (envOfC qg sg s.heap.objs.size g cdg :: X.stack) X.prog X.w HZ s1 Q E) s1 := by
    refine PySem.W.kla_callFunE hr.depth of1 rfl L.co L.gen rfl ⟨c', oc, vs, t, rfl, hoc, hdc, hvc⟩ ?_
    rcases hdv with ⟨hd, rfl⟩ | ⟨hd, T, rfl, hT⟩
    · rw [hb.1 hd]
      exact wpAny_pure (go [] fun y hy => absurd hy (by simp))
    · obtain ⟨pa, hpa, hk⟩ := hb.2 hd
      obtain ⟨kk, hk1, hk2⟩ := hk (X0.env.qual ++ ("<lambda>" : Str)) (cloFrom X0.env.cells r.scope.names []) pm (.ref c') ct (.ref T)
      rw [hk1]
      obtain ⟨_, its, rits, o, ho, _, n, hd2⟩ := I1.hok T _ hT
      refine wpAny_bind (wpAny_seqItems ho hd2 ?_)
      obtain ⟨v0, hv0⟩ : ∃ v0, its.toArray = #[v0] := by
        cases rits with
        | cons r1 r2 => cases r2; exact ⟨_, rfl⟩
      rw [hv0, hk2]
      exact wpAny_pure (go _ fun y hy => by
        simp only [List.mem_cons, List.not_mem_nil, or_false] at hy
        subst hy
        exact hpa)
  have hx : Passes (L2.CX X.prog X.w) ((cxOf CXg X.prog X.w X.K X.mg X.base Ng qg sg g cdg X.A X.stack s H Eg).tr pn xe) E := passes_call tk hW
  refine wpAny_call (codeAny_mono rc fun r s' hq => ?_)
  cases r with
  | error e => exact hx pinsZ σZ HZ s1 e s' I1 hq
  | ok fl =>
    cases fl with
    | ret u => exact I1.after hq
    | next => exact False.elim hq
    | brk => exact False.elim hq
    | cont => exact False.elim hq
end
end Y
namespace Y
open PySem PySem.Spec PyProof.Rows L2
open LamX (CodeO ExtN TabB lamCx lamEnv GivesTo)
def mTryV (tb : List (Nat × Str × Option Str)) (J : Nat) (ms : List EM) (m : EM) : EM := fun σ st => (m σ st).bind fun w st1 => match w with
  | .p (.lam j i) => if j = J then (match ms[i]? with | some b => mTryL tb b σ st1 | none => .no) else .no
  | _ => .no
section
variable {K : PySem.W.Frag} {cl : Cls} {X : Cx} {Wx : WX}
theorem tryL_aft {tb : List (Nat × Str × Option Str)} {CS CM CN : Addr} {E0 : En} {ρ : List Addr} {G : Hp} {m : EM} {σ : Sg} {st : List Cell} {Q : VK} {Z : ZX} (ok : ∀ q ∈ tb, TryC K cl CS CM CN q.1 q.2.1 q.2.2) (h : Aft (bs K cl E0) (bs K cl E0).RW ρ G (mTryL tb m σ st) Q Z) :
    Aft (bs K cl E0) (bs K cl E0).RW ρ G (m σ st) (fun v H' => ([V.str "value", v] : List V).length ≤ sizeLine ∧ ∀ p, H' p = none → Q (.ref p) (upd H' p (.tup [.str "value", v]))) (fun c d H' => EchT K CS CM CN Q c d H') := by
  have two : ∀ x y : V, ([x, y] : List V).length ≤ sizeLine := fun x y => by rw [sizeLine_eq]; show 2 ≤ _; omega
  unfold mTryL at h
  cases e : m σ st with
  | no => rw [e] at h; exact h
  | ok w st1 =>
    rw [e] at h
    cases w with
    | r i => exact h.elim
    | p x =>
      intro ρ' G' H' b p1 s1 R' u
      refine ⟨two _ _, fun a ha => ?_⟩
      have h2 : Aft (bs K cl E0) (bs K cl E0).RW ρ G (.ok (.p (.tup [.str "value", x])) st1) Q _ := h
      refine (Aft.mono p1 s1 h2).newP R' ha (.tup (.inl (.inl upd_same)) (.cons (.str _) (.cons ?_ .nil)))
      exact RP.mono (Sub.new (R'.gnone ha)) u
  | exc y st1 =>
    rw [e] at h
    intro ρ' G' H' cls d p1 s1 R' u
    have h2 : Aft (bs K cl E0) (bs K cl E0).RW ρ G (match tryE tb y with | some p => .ok (.p p) st1 | none => .no) Q _ := h
    obtain ⟨C, ns, dd, vs, k1, k2, k3, k4, k5, k6⟩ := u
    subst k2
    subst k3
    have endT : ∀ (T : Str) (py : P) (v : V), RP K cl G' py v → Aft (bs K cl E0) (bs K cl E0).RW ρ G (.ok (.p (.tup [.str T, py])) st1) Q Z → ∀ H2, (∀ b o, H' b = some o → H2 b = some o) → ∀ p, H2 p = none → Q (.ref p) (upd H2 p (.tup [.str T, v])) := by
      intro T py v rv h3 H2 ext p hp
      have R2 : (bs K cl E0).Rel ρ' G' st1 H2 := R'.grown (LamX.ExtN.of ext) fun q hq => (R'.tabs q hq).ext ext
      refine (Aft.mono p1 s1 h3).newP R2 hp (.tup (.inl (.inl upd_same)) (.cons (.str _) (.cons ?_ .nil)))
      exact RP.mono (Sub.new (R2.gnone hp)) rv
    unfold tryE at h2
    cases el : tb.lookup y.c with
    | none => rw [el] at h2; exact h2.elim
    | some q =>
      obtain ⟨T, f⟩ := q
      rw [el] at h2
      obtain ⟨C', c1, c2, c3, c4, c5⟩ := (ok _ (lookup_memG el)).ex
      rw [k1] at c1
      obtain ⟨rfl, rfl⟩ := Prod.mk.inj (Option.some.inj c1)
      cases f with
      | none =>
        dsimp only at h2
        split at h2
        case h_2 => exact h2.elim
        rename_i T' eT
        split at eT
        case h_2 => cases eT
        rename_i T2 el2
        split at eT
        case isFalse => cases eT
        rename_i hT2
        subst hT2
        cases eT
        rw [el2] at k6
        cases k6 with
        | cons r1 r2 =>
          cases r1; cases r2
          refine ⟨C, dd, _, T, .non, rfl, rfl, c2, c3, k4, zip_tag (y := .non) (.inl ⟨rfl, rfl⟩), ?_, endT T .non .non .non h2⟩
          rcases c5 with ⟨z1, z2⟩ | ⟨z1, z2, z3, _⟩
          · exact .inl ⟨z1, by rw [z2]⟩
          · exact .inr ⟨z1, z2, z3, rfl⟩
      | some f =>
        dsimp only at h2
        split at h2
        case h_2 => exact h2.elim
        rename_i T' eT
        split at eT
        case h_2 => cases eT
        rename_i py T2 el2
        split at eT
        case isFalse => cases eT
        rename_i hT2
        subst hT2
        cases eT
        rw [el2] at k6
        obtain ⟨nt, hf⟩ := c4 f rfl
        cases k6 with
        | @cons _ v _ _ r1 r2 =>
          cases r2 with
          | cons r3 r4 =>
            cases r3; cases r4
            refine ⟨C, dd, _, T, v, rfl, rfl, c2, c3, k4, zip_tag (y := v) (.inr ⟨f, rfl, nt, rfl⟩), ?_, endT T py v r1 h2⟩
            rcases c5 with ⟨z1, z2⟩ | ⟨z1, z2, z3, z4⟩
            · refine .inl ⟨z1, ?_⟩
              rw [z2]
              exact ⟨hf, by simp [nsOf, List.lookup_cons]⟩
            · cases z4
theorem call_try {X0 : Cx} {tb : List (Nat × Str × Option Str)} {x : Str} {g CS CM CN : Addr} {k J i : Nat} {b : EM} {E0 : En} {ρ : List Addr} {G : Hp} {σ : Sg} {st : List Cell} {τ0 τ : L2.St} {H : Hp} {Q : VK} {Z : ZX} {pins : List (Addr × Obj)} {s : Shared} {v : V} {u : Value} (D : LamD X.prog X.w X.K X.mg X.base x g CS CM CN)
    (sm : X0.prog = X.prog ∧ X0.w = X.w ∧ X0.K = X.K ∧ X0.mg = X.mg ∧ X0.base = X.base) (ok : ∀ q ∈ tb, TryC X.K cl CS CM CN q.1 q.2.1 q.2.2) (gx : GX X.K X0) (hr : Room (k + 2) X.A) (hf : cl.fr[J]? = some (X0.env.qual ++ ("<lambda>" : Str), X0.env.cells)) (hb : LamOk1 X.K cl X0 k i b)
    (I : Inv X pins τ H s) (cf : CFc X0.N X0.env.scope X0.env.cells τ0 s.heap H) (R : (bs X.K cl E0).Rel ρ G st H) (S : RS X.K cl ρ G σ τ0) (u1 : RP X.K cl G (.lam J i) v) (rv : RelV v u) (h : Aft (bs X.K cl E0) (bs X.K cl E0).RW ρ G (mTryL tb b σ st) Q Z) :
    wpAny (model X.prog X.w) X.A (call (.ref g) [u]) (EP X pins τ Q) X.xe s := by
  obtain ⟨oc, od, osl, pg, bg, sg, dV, kV, doc, pm, cdv, ct, an, Ng, a, lk, hcg, hbd, Sg, hNg, hva, hd, hcd, hG⟩ := D.ex
  obtain ⟨r, hlm, hL, hbn, hbody⟩ := hb
  cases u1 with
  | @lam f c' _ _ r2 q cs pm2 ct2 dV2 q1 q2 q3 q4 q5 =>
  rw [hlm] at q1
  cases q1
  rw [hf] at q2
  cases q2
  obtain rfl : u = Value.ref f := rv
  have L := lamS3_by hL
  have rc : codeAny (model X.prog X.w) X.A (.call (.ref g) ⟨[.ref f], []⟩) (CR C8.CX0 X.stack X.prog X.w H s Q C8.E0) s := by
    refine LamX.run_ofS (N := Ng) (ps := [a]) (us := [.ref f]) (vs := [.ref f]) lk hcg Sg hr I.env0 (hbd s [.ref f] I.kIn rfl) (.cons rfl .nil) rfl fun hr' => ?_
    obtain ⟨t', ht', hq'⟩ := hG X rfl rfl rfl rfl rfl (hr.mono (by omega)) (X0.env.qual ++ ("<lambda>" : Str)) f c' s H Q
      (fun E H' Q' => H' f = some (exq f (lamO r (X0.env.qual ++ ("<lambda>" : Str)) (cloFrom X0.env.cells r.scope.names []) pm2 (.ref c') ct2 dV2)) ∧ DflAt r dV2 H' ∧ ∀ (A : Around) (outer : List Env) (s : Shared) (H0 : Hp), Room k (A.deeper (lamEnv X0 r.scope s.heap.objs.size f c')) → Y.T (lamCx X0 A outer s H0 E r.scope f c') r.body τ0 H' Q')
      (fun W pn xe E p1 p2 tk hW => lam_act (i := 0) (k := k) (tb := fun σ H Q => ∀ (A : Around) (outer : List Env) (s : Shared) (H0 : Hp), Room k (A.deeper (lamEnv X0 r.scope s.heap.objs.size f c')) → Y.T (lamCx X0 A outer s H0 E r.scope f c') r.body σ H Q) sm rfl cf L hbn tk hW hr'
        (fun A outer s H hr2 => ⟨fun pins s' σ' H' Q' I h' => h' A outer s H hr2 pins s' I⟩) hNg hva hd hcd)
      (R.sub _ _ q4)
      ⟨R.sub _ _ q3, q5.elim .inl fun ⟨h1, T, h2, h3⟩ => .inr ⟨h1, T, h2, R.sub _ _ h3⟩, fun A outer s2 H0 hr2 => (hbody A outer s2 H0 _ f c' (gx_lam gx hr2) tk_lam hr2).run E0 ρ G σ st τ0 H _ R S (tryL_aft ok h)⟩
    exact ⟨t', ht'.nox, hq'⟩
  refine wpAny_call (codeAny_mono rc fun r s2 hq => ?_)
  cases r with
  | error e => exact (show False from hq).elim
  | ok fl =>
    cases fl with
    | ret u => exact I.after hq
    | next => exact False.elim hq
    | brk => exact False.elim hq
    | cont => exact False.elim hq
end
end Y
namespace Y
open PySem PySem.Spec PyProof.Rows L2
open LamX (CodeO ExtN TabB lamCx lamEnv GivesTo)
def spL (K : PySem.W.Frag) (T : List (Addr × Str)) (F : FM) : Sp := fun vs H Q E => ∃ (a : Addr) (ns : List Int) (st : List Cell), vs = [.ref a] ∧ SqL K H a (ns.map V.int) ∧ (∀ p ∈ T, H p.1 = some (.tbl #[])) ∧ F [.p (.scr ns)] [] = .ok (.p (.bl true)) st ∧ ∀ H', Q (.bl true) H'
theorem spL_spF {K : PySem.W.Frag} {cl : Cls} {T : List (Addr × Str)} {F : FM} {vs : List V} {H : Hp} {Q : VK} {E : XK} (hT : cl.tb = T) (h : spL K T F vs H Q E) : spF K cl F vs H Q E := by
  obtain ⟨a, ns, st, rfl, hS, ht, hp, hQ⟩ := h
  refine ⟨[], strip H, [], [.p (.scr ns)], ⟨rfl, .nil, fun i c a h => by simp at h, fun i c a h => by simp at h, fun a o e => (strip_to e).1, fun a u e _ => (strip_to e).1, fun i a _ h => by simp at h, Nat.le_refl _, fun a o e => .inl e, fun a u e => (strip_to e).2, fun a u e => (strip_to e).2, fun q hq => ?_⟩, .cons (.scr (strip_sq hS)) .nil, ?_⟩
  · rw [hT] at hq
    exact TabG.nil (ht q hq)
  · rw [hp]
    intro ρ' G' H' b p s R u
    cases u
    exact hQ H'
end Y
namespace Y
open PySem PySem.Spec PyProof.Rows L2
theorem law_fnC {P : Program} {w : World} {K : PySem.W.Frag} {mg : Str → Option Value} {base : Heap} {N : List Str} {x qual ps : Str} {params : Arguments} {body : List Stmt} {scope : Scope} {p : Str × Option Str} {fd : FuncData} {k : Nat} {m : SMm} {T : List (Addr × Str)} (c0 : List (Str × List (Str × Addr)) → Cls)
    (F : FunD K x qual params body scope [] [] (He.fAd K p) fd) (S : FnScope N [ps] scope) (hT : ∀ fr, (c0 fr).tb = T)
    (hb : ∀ (A : Around) (outer : List Env) (s : Shared) (H : Hp) (E : XK), GX K (cxD P w K mg base N qual scope (He.fAd K p) (.ref (He.codeOf K p)) A outer s H E) → Room k (A.deeper (envOfC qual scope s.heap.objs.size (He.fAd K p) (.ref (He.codeOf K p)))) →
      SSs K (c0 [((cxD P w K mg base N qual scope (He.fAd K p) (.ref (He.codeOf K p)) A outer s H E).env.qual ++ ("<lambda>" : Str), (cxD P w K mg base N qual scope (He.fAd K p) (.ref (He.codeOf K p)) A outer s H E).env.cells)]) (cxD P w K mg base N qual scope (He.fAd K p) (.ref (He.codeOf K p)) A outer s H E) WF m body) :
    FnOk P w K mg base CX0 (k + 1) (He.fAd K p) fd [ps] (spL K T (runF 1 N.length m)) := by
  obtain ⟨oc, od, dV, kV, doc, pm, an, cdv, ct, osl, rfl, lk, hcd, _, _⟩ := F.ex
  obtain ⟨c, rfl⟩ := He.codeIn_ref hcd
  rw [He.codeOf_eq lk rfl] at hb
  refine fn_of lk hcd S (fun vs H Q E h => ?_) fun A outer s H vs Q E hr h => ⟨TSs' (cxD P w K mg base N qual scope (He.fAd K p) (.ref c) A outer s H E) body, PSs.nox TSs'.pss, fn_end S (hb A outer s H E (gx_of S hr) hr) (spL_spF (hT _) h)⟩
  obtain ⟨a, ns, st, rfl, _⟩ := h
  rfl
theorem bindD0 {r : LamR} (h : r.dfl = false) (q : ∀ (q : Str) (clos : List (Str × Addr)) (pm cv ct : Value), bindArgs { PySem.W.kla_fn "<lambda>" q r.params r.body r.scope clos pm cv ct with defaults := .none } ⟨[], []⟩ = pure []) : BindD r := ⟨fun _ => q, fun e => (by rw [h] at e; cases e)⟩
theorem bindD1 {r : LamR} (pa : Str) (h : r.dfl = true) (hl : r.scope.names.lookup pa = some .local) (q : ∀ (q : Str) (clos : List (Str × Addr)) (pm cv ct dV : Value), ∃ k : Option (Array Value) → Sem (List (Str × Value)), bindArgs { PySem.W.kla_fn "<lambda>" q r.params r.body r.scope clos pm cv ct with defaults := dV } ⟨[], []⟩ = (seqItems? dV >>= k) ∧ ∀ v, k (some #[v]) = pure [(pa, v)]) : BindD r := ⟨fun e => (by rw [h] at e; cases e), fun _ => ⟨pa, hl, q⟩⟩
end Y
namespace Y
open PySem PySem.Spec PyProof.Rows L2
open LamX (CodeO ExtN TabB lamCx lamEnv GivesTo)
def headK (w : W) (st1 : List Cell) : Res W := match w with
  | .p (.tup (x :: _)) => .ok (.p x) st1
  | _ => .no
def mWordV (tb : List (Nat × Str × Option Str)) (J : Nat) (ms : List EM) (m : EM) : EM := fun σ st => (m σ st).bind fun w st1 => match w with
  | .p (.lam j i) => if j = J then (match ms[i]? with | some b => (mTryL tb b σ st1).bind headK | none => .no) else .no
  | _ => .no
end Y
namespace Y
open PySem PySem.Spec PyProof.Rows L2
open PySem.W (ksFn ksEnv)
theorem DefE.funD {K : PySem.W.Frag} {d : DefE} (e : fnE K (d.at_ K) = d.val) (c : d.okB K = true) (h : d.clo = []) : ∃ fd, FunD K d.name d.qual d.params d.body d.scope [] [] (d.at_ K) fd := by
  obtain ⟨oc, od, osl, clo, dV, kV, doc, pm, cdv, ct, an, k1, k2, k3, k4, k5, k6⟩ := DefE.ex e c
  rw [h, List.map_eq_nil_iff] at k2
  subst k2
  exact ⟨_, ⟨oc, od, dV, kV, doc, pm, an, cdv, ct, osl, rfl, k1, k4, k5, k6⟩, k3⟩
theorem SaysE.def_ {fa : List He.Fa} {fn : List He.DefD} {ts : List He.Tab} {tf : List He.Defn} {ex : PySem.W.Frag → Bool} {es : List DefE} {w : World} {h : Heap} {K : PySem.W.Frag} (c : SaysE fa fn ts tf ex es w h K) (i : Nat) {d : DefE} (hd : es[i]? = some d) : fnE K (d.at_ K) = d.val ∧ d.okB K = true := by
  have z := congrArg (fun l => l[i]?) c.e
  simp only [List.getElem?_map, hd] at z
  exact ⟨Option.some.inj z, List.all_eq_true.mp c.ok d (List.mem_of_getElem? hd)⟩
theorem oexB_ok {K : PySem.W.Frag} {C : Addr} (h : oexB K C = true) : OexC K C := by
  unfold oexB at h
  simp only [Bool.and_eq_true, decide_eq_true_eq] at h
  obtain ⟨⟨⟨⟨h1, h2⟩, h3⟩, h4⟩, h5⟩ := h
  refine ⟨?_, He.eqO_ok h2, h3, h4, h5⟩
  cases q : K.lookup C with
  | none => rw [q] at h1; cases h1
  | some o =>
    rw [q] at h1
    obtain ⟨oc, od, dt, osl⟩ := o
    replace h1 : oexD C oc dt osl.toList = true := h1
    unfold oexD at h1
    split at h1
    case h_2 => cases h1
    rename_i cd
    split at h1
    case h_2 => cases h1
    rename_i c bm k0 k1 k2 k3 n k5 hm hs
    simp only [Bool.and_eq_true, decide_eq_true_eq, Bool.not_eq_true'] at h1
    obtain ⟨⟨⟨⟨rfl, rfl⟩, g3⟩, g4⟩, g5⟩ := h1
    obtain ⟨c1, c2, c3, c4, c5, c6, c7, c8, c9, c10, c11⟩ := cd
    dsimp only at hm g3 g4
    subst hm g3 g4
    obtain rfl : osl = #[k0, k1, k2, k3, some (.builtin "ValueError.__new__"), k5] := by
      obtain ⟨l⟩ := osl
      simp only at hs
      rw [hs]
    exact ⟨_, _, _, _, _, _, _, _, _, _, _, _, _, _, _, rfl, g5⟩
theorem cellB_ok {K : PySem.W.Frag} {cc C : Addr} (h : cellB K cc C = true) : ∃ cl0 cd0 csl, K.lookup cc = some ⟨cl0, cd0, .cell (some (.ref C)), csl⟩ := by
  unfold cellB at h
  cases q : K.lookup cc with
  | none => rw [q] at h; cases h
  | some o =>
    obtain ⟨o1, o2, dt, o3⟩ := o
    rw [q] at h
    replace h : cellD C dt = true := h
    unfold cellD at h
    split at h
    · rw [of_decide_eq_true h]
      exact ⟨_, _, _, rfl⟩
    · cases h
theorem fileB_ok {K : PySem.W.Frag} {a : Addr} {z : Str} (h : fileB K a z = true) : ∃ o1 o2 vs o3 tf, K.lookup a = some ⟨o1, o2, .fields vs, o3⟩ ∧ vs[2]? = some (.str z tf) := by
  unfold fileB at h
  cases q : K.lookup a with
  | none => rw [q] at h; cases h
  | some o =>
    obtain ⟨o1, o2, dt, o3⟩ := o
    rw [q] at h
    replace h : fileD z dt = true := h
    cases dt with
    | fields vs =>
      replace h : strIs z vs[2]? = true := h
      cases e : vs[2]? with
      | none => rw [e] at h; cases h
      | some v =>
        rw [e] at h
        cases v with
        | str y t =>
          have e2 : z = y := eq_of_beq h
          subst e2
          exact ⟨_, _, vs, _, t, rfl, e⟩
        | _ => cases h
    | _ => cases h
section
variable {P : Program} {w : World} {K : PySem.W.Frag} {mg : Str → Option Value} {base : Heap} {cl : Cls} {x z : Str} {g : Option Str}
theorem excB_say (pf : FileOf P z) (h : excB K x z g = true) {d : DefE} (hat : d.at_ = fun K => He.ma K (He.ga K x) "__init__") (hn : d.name = "__init__") (hclo : d.clo = [("__class__" : Str)]) (e : fnE K (d.at_ K) = d.val) (c : d.okB K = true) (hsup : mg "super" = none)
    (hpar : ∃ ar, (d.params.posonlyargs ++ d.params.args).head? = some ar ∧ ar.arg = ("self" : Str)) :
    ∃ (cc cda : Addr) (fd : FuncData), SayF P K mg (He.ga K x) (He.ma K (He.ga K x) "__init__") cc cda "__init__" d.qual d.params d.body d.scope fd ∧ ∃ kV doc pm an cdv ct, fd = ksFn "__init__" d.qual d.params d.body d.scope .none kV doc pm an cdv ct cc := by
  unfold excB at h
  simp only [Bool.and_eq_true, decide_eq_true_eq] at h
  obtain ⟨⟨⟨⟨⟨⟨⟨⟨⟨⟨h1, h2⟩, h3⟩, h4⟩, h5⟩, h6⟩, h7⟩, h8⟩, h9⟩, h10⟩, h11⟩ := h
  obtain ⟨oc, od, osl, clo, dV, kV, doc, pm, cdv, ct, an, k1, k2, k3, k4, k5, k6⟩ := DefE.ex e c
  rw [hclo] at k2
  rw [hat] at k1 k3
  obtain ⟨q, rfl, eq⟩ : ∃ q : Str × Addr, clo = [q] ∧ q.1 = ("__class__" : Str) := by
    cases clo with
    | nil => cases k2
    | cons q l =>
      cases l with
      | nil => exact ⟨q, rfl, by simpa using k2⟩
      | cons _ _ => simp at k2
  obtain ⟨cn, cc⟩ := q
  dsimp only at eq
  subst eq
  have k1 : K.lookup (He.ma K (He.ga K x) "__init__") = _ := k1
  unfold cloOf at h7
  rw [k1] at h7
  obtain ⟨cda, rfl⟩ := He.codeIn_ref k4
  have h7 : (cellB K cc (He.ga K x) && fileB K cda z) = true := h7
  rw [Bool.and_eq_true] at h7
  obtain ⟨h13, h12⟩ := h7
  obtain rfl : dV = .none := by
    rcases k5 with ⟨_, q⟩ | ⟨q, _⟩
    · exact q
    · exact absurd rfl q
  refine ⟨cc, cda, _, ⟨oexB_ok h1, ⟨oc, od, .none, kV, doc, pm, an, ct, osl, rfl, ?_⟩, k4, ?_, hpar, ?_, pf.top, hsup, He.eqO_ok h8, h9, h10, He.eqO_ok h11⟩, kV, doc, pm, an, .ref cda, ct, rfl⟩
  · rw [k1, hn]
  · exact cellB_ok h13
  · obtain ⟨o1, o2, vs, o3, tf, e1, e2⟩ := fileB_ok h12
    exact ⟨o1, o2, vs, o3, z, tf, e1, e2, pf.file⟩
end
end Y
namespace Y
open PySem PySem.Spec PyProof.Rows L2
open PySem.W (ksFn ksEnv)
section
variable {P : Program} {w : World} {K : PySem.W.Frag} {mg : Str → Option Value} {base : Heap} {cl : Cls} {x z : Str} {g : Option Str}
theorem excB_parts (h : excB K x z g = true) : OexC K (He.ga K x) ∧ XfC K (He.ga K x) ∧ PySem.W.findIn K (.ref (He.ga K x)) "tag" = some none ∧ (∀ f, g = some f → (f == ("tag" : Str)) = false ∧ PySem.W.findIn K (.ref (He.ga K x)) f = some none) ∧
    PySem.W.findIn K (.ref (He.ga K x)) "__init__" = some (some (.ref (He.ma K (He.ga K x) "__init__"))) ∧ PySem.W.typeIn K (.ref (He.ma K (He.ga K x) "__init__")) = some (.type "function") := by
  unfold excB at h
  simp only [Bool.and_eq_true, decide_eq_true_eq] at h
  obtain ⟨⟨⟨⟨⟨⟨⟨⟨⟨⟨h1, h2⟩, h3⟩, h4⟩, h5⟩, h6⟩, h7⟩, h8⟩, h9⟩, h10⟩, h11⟩ := h
  refine ⟨oexB_ok h1, xfB_ok h2, He.eqO_ok h3, fun f hf => ?_, He.eqO_ok h5, h6⟩
  subst hf
  have h4 : (He.eqO (PySem.W.findIn K (.ref (He.ga K x)) f) (some none) && !(f == ("tag" : Str))) = true := h4
  rw [Bool.and_eq_true, Bool.not_eq_true'] at h4
  exact ⟨h4.2, He.eqO_ok h4.1⟩
abbrev superCall (m : Str) (j : Nat) (p0 p1 p2 p3 p4 : Pos) : Expr := .Call (.Attribute (.Call (.Name "super" p0) [] [] p1) "__init__" p2) [.Constant (.str m) j p3] [] p4
def SaysUp (qual : Str) (scope : Scope) (m : Str) (j : Nat) (p0 p1 p2 p3 p4 p5 : Pos) : Prop := ∀ (f cda cc : Addr), ∃ pl : Sem Bool, ∀ L, eval (superCall m j p0 p1 p2 p3 p4) (ksEnv qual scope L f (.ref cda) cc) = (do
      let ov ← attributeBase (.Call (.Name "super" p0) [] [] p1) "__init__" (ksEnv qual scope L f (.ref cda) cc) (eval (.Call (.Name "super" p0) [] [] p1) (ksEnv qual scope L f (.ref cda) cc))
      standAt p2.atName
      let (f', first) ← holding [ov] (getMethod ov "__init__" pl)
      callWith p4 f' first (backTo p4 (starEach [.Constant (.str m) j p3] (ksEnv qual scope L f (.ref cda) cc))) []) ∧
    interactive (ksEnv qual scope L f (.ref cda) cc) = false ∧ swapsWith (superCall m j p0 p1 p2 p3 p4) none p5.line (ksEnv qual scope L f (.ref cda) cc) = pure false
theorem exc1_of {c j j2 : Nat} {T m f pn : Str} {p0 p1 p2 p3 p4 p5 q1 q2 q3 q4 q5 q6 q7 q8 : Pos} {qual : Str} {params : Arguments} {scope : Scope} (pf : FileOf P z) (h : excB K x z (some f) = true) (hsup : mg "super" = none) (hC : cl[c]? = some (He.ga K x, [f, ("tag" : Str)]))
    (dd : (⟨fun K => He.ma K (He.ga K x) "__init__", "__init__", qual, params, [.Expr (superCall m j p0 p1 p2 p3 p4) p5, .Assign [.Attribute (.Name "self" q1) "tag" q2] (.Constant (.str T) j2 q3) q4, .Assign [.Attribute (.Name "self" q5) f q6] (.Name pn q7) q8], scope, [("__class__" : Str)]⟩ : DefE).okB K = true)
    (de : fnE K (He.ma K (He.ga K x) "__init__") = (⟨fun K => He.ma K (He.ga K x) "__init__", "__init__", qual, params, [.Expr (superCall m j p0 p1 p2 p3 p4) p5, .Assign [.Attribute (.Name "self" q1) "tag" q2] (.Constant (.str T) j2 q3) q4, .Assign [.Attribute (.Name "self" q5) f q6] (.Name pn q7) q8], scope, [("__class__" : Str)]⟩ : DefE).val)
    (hpar : ∃ ar, (params.posonlyargs ++ params.args).head? = some ar ∧ ar.arg = ("self" : Str)) (S : CScope ["self", pn] scope) (up : SaysUp qual scope m j p0 p1 p2 p3 p4 p5) (d1 : (pn == ("__debug__" : Str)) = false) (d2 : (pn == ("__classdict__" : Str)) = false)
    (bd : ∀ (kV doc pm : Value) (an : Option Addr) (cdv ct : Value) (cc : Addr) (us : List Value), us.length = 2 → bindArgs (ksFn "__init__" qual params [.Expr (superCall m j p0 p1 p2 p3 p4) p5, .Assign [.Attribute (.Name "self" q1) "tag" q2] (.Constant (.str T) j2 q3) q4, .Assign [.Attribute (.Name "self" q5) f q6] (.Name pn q7) q8] scope .none kV doc pm an cdv ct cc) ⟨us, []⟩ = pure ([("self" : Str), pn].zip us))
    (hs : ∀ X : Cx, swapsWith (.Constant (.str T) j2 q3) (some (.Attribute (.Name "self" q1) "tag" q2)) q4.line X.env = pure false) (hs2 : ∀ X : Cx, swapsWith (.Name pn q7) (some (.Attribute (.Name "self" q5) f q6)) q8.line X.env = pure false) :
    Exc1 P w K mg base cl 1 c (He.ga K x) T f pn := by
  obtain ⟨cc, cda, fd, D, kV, doc, pm, an, cdv, ct, rfl⟩ := excB_say (mg := mg) pf h rfl rfl rfl de dd hsup hpar
  obtain ⟨e1, e2, e3, e4, e5, e6⟩ := excB_parts h
  obtain ⟨pl, hup⟩ := up (He.ma K (He.ga K x) "__init__") cda cc
  refine ⟨hC, e1, e3, (e4 f rfl).2, _, _, e5, e6, say_fn (k := 0) (pl := pl) rfl D S (fun L => (hup L).1) (fun L => (hup L).2.1) (fun L => (hup L).2.2) (fun A outer s H => ?_), .all fun us hl => bd kV doc pm an cdv ct cc us hl⟩
  have v0 : ∀ p, PE (ccx P w K mg base ["self", pn] qual scope (He.ma K (He.ga K x) "__init__") cc (.ref cda) A outer s H) (.Name "self" p) (tVar 0) := fun p => pe_var (i := 0) rfl (.inl (S.par _ List.mem_cons_self)) (by decide +kernel) (by decide +kernel)
  have v1 : ∀ p, PE (ccx P w K mg base ["self", pn] qual scope (He.ma K (He.ga K x) "__init__") cc (.ref cda) A outer s H) (.Name pn p) (tVar 1) := fun p => pe_var (i := 1) rfl (.inl (S.par _ (List.mem_cons_of_mem _ List.mem_cons_self))) d1 d2
  exact pss_cons (ps_ost (v0 _) pe_str (hs _)) (pss_one (ps_ost (v0 _) (v1 _) (hs2 _)))
theorem tryC_of {c : Nat} {T : Str} {CS CM CN : Addr} (h : excB K x z g = true) (hC : cl[c]? = some (He.ga K x, nsOf g)) (h1 : PySem.W.exmOne K (.ref (He.ga K x)) (.ref CS) = some true) (h2 : fieldN T = g) : TryC K cl CS CM CN c T g := by
  obtain ⟨e1, e2, e3, e4, e5, e6⟩ := excB_parts h
  exact ⟨_, hC, e2, e3, e4, .inl ⟨.inl h1, h2⟩⟩
end
section
variable {K : PySem.W.Frag} {cl : Cls} {X : Cx} {Wx : WX}
theorem tk0 : Takes X WF := fun _ _ x => by
  obtain ⟨_, _, _, _, _, _, _, _, _, _, _, _, _, _, _, _, z⟩ := x
  exact z.elim
theorem wi0 : WI WF := fun _ _ _ _ _ h => h
theorem SE.weak {m : EM} {e : Expr} (h : SE K cl X WF m e) : SE K cl X Wx (fun σ st => (m σ st).nox) e := by
  refine ⟨fun E0 ρ G σ st τ H Q R S q => h.run E0 ρ G σ st τ H Q R S ?_⟩
  have q : Aft (bs K cl E0) (bs K cl E0).RW ρ G (m σ st).nox Q _ := q
  exact Aft.noxZ q
def mProp (c : Nat) (F : FM) (o : EM) : EM := fun σ st => (o σ st).bind fun w st1 => if clsOf st1 w = some c then (callF F [w] st1).nox else .no
theorem propK {C : Addr} {ns : List Str} {c k : Nat} {F : FM} {o : EM} {eo : Expr} {f : Str} {pos : Pos} (h : Pk X.prog X.w X.K X.mg X.base cl k C f F) (g : GX K X) (hr : Room (k + 1) X.A) (hC : cl[c]? = some (C, ns)) (kc : L2.Cls K C) (ho : SE K cl X Wx o eo) (hb : attributeBase eo f X.env (eval eo X.env) = eval eo X.env) :
    SE K cl X Wx (mProp c F o) (.Attribute eo f pos) := by
  obtain ⟨hK, _⟩ := g
  subst hK
  obtain ⟨p, gf, fd, ps, h1, h2, h3⟩ := h.ex
  refine ⟨fun E0 ρ G σ st τ H Q R S q => T.of (pe_prop (E := L2.E0) T.pe kc h1 h2 hr h3 .nil (fun _ _ _ _ _ _ _ z => z.elim) hb) ?_⟩
  refine ho.run E0 ρ G σ st τ H _ R S (Aft.seq q fun w st1 ρ1 G1 H1 v e1 p1 s1 R1 u1 h1 => ?_)
  split at h1
  case isFalse => exact h1.elim
  rename_i ec
  obtain ⟨b, dx, vs, rfl, hH⟩ := clsOf_ok R1 u1 ec hC
  exact ⟨b, dx, _, rfl, hH, callF_ok R1 (.cons u1 .nil) (ws := [w]) (vs := [.ref b]) (Aft.noxZ h1)⟩
end
theorem propB_ok {K : PySem.W.Frag} {C : Addr} {f : Str} (h : propB K C f = true) : PropOf K C f (propGet K C f).1 (propGet K C f).2 := by
  unfold propB at h
  simp only [Bool.and_eq_true, decide_eq_true_eq] at h
  obtain ⟨⟨⟨h1, h2⟩, h3⟩, h4⟩ := h
  refine ⟨He.eqO_ok h1, He.eqO_ok h2, h3, ?_⟩
  cases q : PySem.W.recIn K (propGet K C f).1 "property" with
  | none => rw [q] at h4; cases h4
  | some l =>
    rw [q] at h4
    cases l with
    | nil => cases h4
    | cons u r =>
      cases u with
      | ref g =>
        have e : g = (propGet K C f).2 := of_decide_eq_true h4
        rw [e]
        exact ⟨_, rfl⟩
      | _ => cases h4
def sTryC (T : List (Nat × Bool)) (b : SMm) (x : P) : SMm := fun σ st => match b σ st with
  | .exc e σ1 st1 => (match T.lookup e.c with
    | some true => .ok (.rt (.p x)) σ1 st1
    | some false => .exc e σ1 st1
    | none => .no)
  | r => r
section
variable {K : PySem.W.Frag} {cl : Cls} {X : Cx} {Wx : WX}
theorem GX.tr (g : GX K X) {pn : List (Addr × Obj)} {xe : Value → Shared → Prop} : GX K (X.tr pn xe) := ⟨g.hK, g.hc, g.hN, g.hu, g.hh⟩
end
end Y
namespace Y
open PySem PySem.Spec PyProof.Rows L2
def plainTypes : List String := ["NoneType", "bool", "int", "str", "tuple", "list"]
theorem notFirst_plain {K : PySem.W.Frag} {C : Addr} {T : String} (h : T ∈ plainTypes) : PySem.W.notFirst K C (.type T) = true := by
  simp only [plainTypes, List.mem_cons, List.not_mem_nil, or_false] at h
  rcases h with rfl | rfl | rfl | rfl | rfl | rfl <;> rfl
theorem TyK.looks {X : Cx} {pins : List (Addr × Obj)} {σ : L2.St} {H : Hp} {s : Shared} {C : Addr} {y : V} {u : Value} (t : TyK X.K C H y) (I : Inv X pins σ H s) (r : RelV y u) : ∃ tb, PySem.W.Looks (model X.prog X.w) s.heap (typeOf u) tb ∧ PySem.W.notFirst X.K C tb = true := by
  cases t with
  | non => cases r; exact ⟨.type "NoneType", .of_pure rfl, notFirst_plain (by decide)⟩
  | bl b => cases r; exact ⟨.type "bool", .of_pure rfl, notFirst_plain (by decide)⟩
  | int i => obtain ⟨t, rfl⟩ := r; exact ⟨.type "int", .of_pure rfl, notFirst_plain (by decide)⟩
  | str z => obtain ⟨t, rfl⟩ := r; exact ⟨.type "str", .of_pure rfl, notFirst_plain (by decide)⟩
  | tup h =>
    cases r
    obtain ⟨its, r', ⟨o, e, hc, n, hd⟩, hz⟩ := I.tuple h
    exact ⟨.type "tuple", fun A Q E s k q => wpAny_typeOf_ref (k _ _ e) (by rw [hc]; exact q), notFirst_plain (by decide)⟩
  | lst h =>
    cases r
    obtain ⟨its, r', ⟨o, n, e, hc, _, hd⟩, hz⟩ := I.list h
    exact ⟨.type "list", fun A Q E s k q => wpAny_typeOf_ref (k _ _ e) (by rw [hc]; exact q), notFirst_plain (by decide)⟩
  | own h =>
    cases r
    obtain ⟨mA, O, _⟩ := ins_get I.hok h
    obtain ⟨od, J, _⟩ := O.look
    exact ⟨.ref C, J.type, by simp [PySem.W.notFirst]⟩
theorem neB_ok {K : PySem.W.Frag} {C : Addr} (h : neB K C = true) : NeC K C := by
  unfold neB at h
  rw [Bool.and_eq_true] at h
  exact ⟨He.eqO_ok h.1, of_decide_eq_true h.2⟩
def rEqO (K : PySem.W.Frag) (C : Addr) (sp : Sp) (neg : Bool) : R2 := fun x y H Q => ∃ a dx fs, x = .ref a ∧ H a = some (.ins C dx fs) ∧ TyK K C H y ∧ sp [x, y] H (fun v H' => ∃ k, v = .bl k ∧ Q (.bl (k != neg)) H') L2.E0
section
variable {X : Cx} {C f : Addr} {fd : FuncData} {ps : List Str} {sp : Sp} {k : Nat}
theorem op_eqO (hmt : Meth X.K C "__eq__" f) (Fk : FnOk X.prog X.w X.K X.mg X.base CX0 k f fd ps sp) (hr : Room k X.A) (hb : Binds X.K fd ps []) (hu : X.A.units < cLine) : OpR X (compareOp .Eq) (rEqO X.K C sp false) := by
  intro pins s σ H x y v u Q I rx ry h
  obtain ⟨a, dx, fs, rfl, eH, ty, h⟩ := h
  obtain rfl : v = .ref a := rx
  obtain ⟨mA, O, _⟩ := ins_get I.hok eH
  obtain ⟨od, J, _⟩ := O.look
  obtain ⟨tb, lt, nf⟩ := ty.looks I ry
  obtain ⟨m, hF⟩ := I.fr
  refine PySem.W.cmp_K (op := .Eq) (tb := tb) hu hF I.ok.mod.kin J lt nf hmt.at_ hmt.fn ?_
  refine wpAny_mono (run_fn (E := L2.E0) (us := [.ref a, u]) (vs := [.ref a, y]) Fk hr hb .nil pass0 I (.cons rfl (.cons ry .nil)) h) (fun w s' z => ?_) fun _ _ z => z
  obtain ⟨v, H', I', rv, b, eb, q⟩ := z
  subst eb
  cases rv
  exact ⟨.bl b, H', I', rfl, by simpa using q⟩
theorem run_in1 {pins : List (Addr × Obj)} {σ : L2.St} {H : Hp} {s : Shared} {Q : VK} {E' : Value → Shared → Prop} {us : List Value} {vs : List V} (Fk : FnOk X.prog X.w X.K X.mg X.base CX0 k f fd ps sp) (hr : Room (k + 1) X.A) (hb : Binds X.K fd ps []) (I : Inv X pins σ H s) (r : Vals vs us) (h : sp vs H Q L2.E0) :
    wpAny (model X.prog X.w) X.A.in1 (call (.ref f) us) (EP X pins σ Q) E' s := by
  have hl : (us ++ []).length = ps.length := by rw [List.append_nil, ← r.length]; exact Fk.len _ _ _ _ h
  have b := hb s us I.kIn hl
  rw [List.append_nil] at b
  refine wpAny_call (codeAny_mono (Fk.run X.A.in1 X.stack s H ⟨us, []⟩ us vs Q L2.E0 hr.in1 I.env0.in1 b r h) fun r s' hq => ?_)
  cases r with
  | error er => exact hq.elim
  | ok fl =>
    cases fl with
    | ret u => exact I.after hq
    | next => exact False.elim hq
    | brk => exact False.elim hq
    | cont => exact False.elim hq
theorem op_neO (hn : NeC X.K C) (hmt : Meth X.K C "__eq__" f) (Fk : FnOk X.prog X.w X.K X.mg X.base CX0 k f fd ps sp) (hr : Room (k + 1) X.A) (hb : Binds X.K fd ps []) (hu : X.A.units + 1 < cLine) : OpR X (compareOp .NotEq) (rEqO X.K C sp true) := by
  intro pins s σ H x y v u Q I rx ry h
  obtain ⟨a, dx, fs, rfl, eH, ty, h⟩ := h
  obtain rfl : v = .ref a := rx
  obtain ⟨mA, O, _⟩ := ins_get I.hok eH
  obtain ⟨od, J, _⟩ := O.look
  obtain ⟨tb, lt, nf⟩ := ty.looks I ry
  have KX := I.kIn
  have inst : PySem.W.Looks (model X.prog X.w) s.heap (isInstance (.ref a) (.type "object")) true := J.type.andThen (PySem.W.looks_subIn KX hn.ob)
  have body : wpAny (model X.prog X.w) X.A.in1 (Builtin.«object.__ne__» ⟨[.ref a, u], []⟩) (fun fin s' => ∃ b, fin = .done (.ret (.bool b)) ∧ EP X pins σ Q (.bool b) s') (fun _ _ => False) s := by
    unfold Builtin.«object.__ne__»
    refine wpAny_bind (wpAny_of_eq (a := ((Value.ref a : Value), [u])) (by first | rfl | (simp only [slotArgs]; rfl)) ?_)
    refine wpAny_bind (wpAny_cRoomFor hu ?_)
    refine wpAny_bind (PySem.W.ifBound_K KX J hmt.at_ hmt.fn (wpAny_mono (run_in1 (us := [.ref a, u]) (vs := [.ref a, y]) (E' := fun _ _ => False) Fk hr hb I (.cons rfl (.cons ry .nil)) h) (fun w s' z => ?_) fun _ _ z => z))
    obtain ⟨v, H', I', rv, b, eb, q⟩ := z
    subst eb
    cases rv
    show wpAny _ _ (truthy (.bool b) >>= fun r => ret (.bool (!r))) _ _ _
    refine wpAny_bind (wpAny_of_eq (a := b) rfl ?_)
    exact wpAny_pure ⟨!b, rfl, .bl (!b), H', I', rfl, by
      have e : (b != true) = !b := by cases b <;> rfl
      rw [e] at q; exact q⟩
  have one : wpAny (model X.prog X.w) X.A (tryCompare (.ref a) "__ne__" u) (fun r s' => ∃ b, r = some (.bool b) ∧ EP X pins σ Q (.bool b) s') X.xe s := by
    unfold tryCompare
    refine wpAny_bind ?_
    simp only [callSpecialIfBound?, bindSpecialIfBound?]
    refine wpAny_holding (wpAny_bind (wpAny_bind (wpAny_bind (J.type.here ((PySem.W.looks_findIn KX hn.ne).here ?_)))))
    refine wpAny_bind (wpAny_askSetting (wpAny_ite ?_))
    have fin : wpAny (model X.prog X.w) X.A (call (.builtin "object.__ne__") ([.ref a] ++ [u]) >>= fun v => pure (some v)) (fun r s' => wpAny (model X.prog X.w) X.A (match r with | some .notImplemented => pure none | none => pure none | some v => pure (some v) : Sem (Option Value)) (fun r s' => ∃ b, r = some (.bool b) ∧ EP X pins σ Q (.bool b) s') X.xe s') X.xe s := by
      refine wpAny_bind (wpAny_call (codeAny_call_builtin F.cmp_object.ne.plain F.cmpEntry_ne (PySem.W.check_slot F.cmpKind_ne F.cmpSplit_ne inst (F.cmpArgs_ne _ _) (wpAny_mono body (fun fi s' z => ?_) fun _ _ z => z.elim))))
      obtain ⟨b, rfl, q⟩ := z
      exact wpAny_pure (wpAny_pure ⟨b, rfl, q⟩)
    split
    · exact wpAny_bind (wpAny_of_eq (F.cmp_object.ne.bind _) (wpAny_pure (by exact fin)))
    · exact wpAny_tryCatch (wpAny_bind (wpAny_of_eq (F.cmp_object.ne.bind _) (wpAny_pure (by exact fin))))
  show wpAny _ _ (richCompare .NotEq (.ref a) u) _ _ _
  unfold richCompare
  simp only [oneThing_ref]
  refine wpAny_holding (wpAny_bind (wpAny_cRoomFor (by omega) ?_))
  refine wpAny_bind (J.type.here (wpAny_bind (lt.here ?_)))
  have fin2 : wpAny (model X.prog X.w) X.A (tryCompare (.ref a) (cmpInfo .NotEq).2.1 u) (fun r s' => ∃ b, r = some (.bool b) ∧ EP X pins σ Q (.bool b) s') X.xe s := one
  split
  · rename_i q
    have e : PySem.W.subIn X.K tb (.ref C) = some false := by
      rcases Bool.or_eq_true_iff.mp nf with e | e
      · rw [beq_iff_eq.mp e] at q; simp at q
      · exact beq_iff_eq.mp e
    refine wpAny_bind ((PySem.W.looks_subIn KX e).here ?_)
    simp only [Bool.false_eq_true, if_false]
    refine wpAny_bind (wpAny_mono fin2 (fun r s' z => ?_) fun _ _ e => e)
    obtain ⟨v, rfl, hq⟩ := z
    exact wpAny_pure hq
  · refine wpAny_bind (wpAny_pure ?_)
    simp only [Bool.false_eq_true, if_false]
    refine wpAny_bind (wpAny_mono fin2 (fun r s' z => ?_) fun _ _ e => e)
    obtain ⟨v, rfl, hq⟩ := z
    exact wpAny_pure hq
end
end Y
namespace Y
open PySem PySem.Spec PyProof.Rows L2
def tyOk (c : Nat) (st : List Cell) : W → Bool
  | .p .non => true
  | .p (.bl _) => true
  | .p (.int _) => true
  | .p (.str _) => true
  | .p (.tup _) => true
  | .p (.lst _) => true
  | .p (.scr _) => true
  | .p (.obj d _) => decide (d = c)
  | .r i => (match st[i]? with
    | some (.lst _) => true
    | some (.ins d _) => decide (d = c)
    | _ => false)
  | _ => false
def asB (neg : Bool) : Res W → Res W
  | .ok (.p (.bl k)) st => .ok (.p (.bl (k != neg))) st
  | _ => .no
def vEqO (c : Nat) (F : FM) (neg : Bool) (x y : W) (st : List Cell) : Res W := if clsOf st x = some c ∧ tyOk c st y = true then asB neg (callF F [x, y] st) else .no
section
variable {K : PySem.W.Frag} {cl : Cls} {X : Cx} {Wx : WX} {E0 : En} {ρ ρ' : List Addr} {G G' : Hp} {σ : Sg} {τ : L2.St} {st : List Cell} {H : Hp} {D : Ends}
theorem tyOk_ok {c : Nat} {C : Addr} {ns : List Str} (R : (bs K cl E0).Rel ρ G st H) {w : W} {v : V} (r : RW K cl ρ G w v) (hC : cl[c]? = some (C, ns)) (h : tyOk c st w = true) : TyK K C H v := by
  cases w with
  | p x =>
    cases x with
    | non => cases r; exact .non
    | bl b => cases r; exact .bl b
    | int i => cases r; exact .int i
    | str z => cases r; exact .str z
    | tup l => cases r with | tup h _ => exact .tup (R.sub.sqT h)
    | lst l => cases r with | lst h _ => exact .lst (.inl (.inl (R.sub _ _ h)))
    | scr l => cases r with | scr h => exact .lst (R.sub.sqL h)
    | obj d l =>
      have hd : d = c := of_decide_eq_true h
      subst hd
      cases r with
      | obj h1 h2 h3 h4 =>
        rw [hC] at h1
        cases h1
        exact .own (R.sub _ _ h2)
    | dk _ _ => cases h
    | exn _ _ => cases h
    | lam _ _ => cases h
    | cls _ => cases h
    | fd _ _ => cases h
    | fn _ _ => cases h
  | r i =>
    obtain ⟨a, ha, rfl⟩ := r
    unfold tyOk at h
    dsimp only at h
    split at h
    · rename_i l el
      obtain ⟨b, hb, ⟨vs, h1, h2⟩, _⟩ := R.at el
      cases Option.some.inj (ha.symm.trans hb)
      exact .lst (.inl (.inl h1))
    · rename_i d l el
      have hd : d = c := of_decide_eq_true h
      subst hd
      obtain ⟨b, hb, ⟨C', dx, ns', vs, h0, h1, h2⟩, _⟩ := R.at el
      cases Option.some.inj (ha.symm.trans hb)
      rw [hC] at h0
      cases h0
      exact .own h1
    · cases h
theorem asB_ok {neg : Bool} {R : Res W} {Q : VK} {Z Z' : ZX} {U : List Addr → Hp → W → V → Prop} (h : Aft (bs K cl E0) (bs K cl E0).RW ρ G (asB neg R) Q Z) : Aft (bs K cl E0) (bs K cl E0).RW ρ G R (fun v H' => ∃ k, v = .bl k ∧ Q (.bl (k != neg)) H') Z' := by
  unfold asB at h
  split at h
  · rename_i k st1
    intro ρ' G' H' b p s R' u
    cases u
    exact ⟨k, rfl, h ρ' G' H' _ p s R' (RP.bl _)⟩
  · exact h.elim
theorem vEqO_ok {c : Nat} {C : Addr} {ns : List Str} {F : FM} {neg : Bool} (hC : cl[c]? = some (C, ns)) : VOp K cl (vEqO c F neg) (rEqO K C (spF K cl F) neg) := by
  intro E0 ρ G st H x y v u Q Z R rx ry h
  unfold vEqO at h
  split at h
  case isFalse => exact h.elim
  rename_i hh
  obtain ⟨a, dx, vs, rfl, hH⟩ := clsOf_ok R rx hh.1 hC
  exact ⟨a, dx, _, rfl, hH, tyOk_ok R ry hC hh.2, callF_ok R (.cons rx (.cons ry .nil)) (asB_ok (U := (bs K cl E0).RW) h)⟩
section
variable {C f : Addr} {ns ps : List Str} {c k : Nat} {F : FM} {a b : EM} {pa pb : Expr} {pos : Pos}
theorem se_eqO (h : Fk X.prog X.w X.K X.mg X.base cl k f ps F) (g : GX K X) (hr : Room k X.A) (hC : cl[c]? = some (C, ns)) (hmt : Meth K C "__eq__" f) (ha : SE K cl X Wx a pa) (hb : SE K cl X Wx b pb) (hm : behindInMarks .Eq pb = false := by rfl) : SE K cl X Wx (mBin (vEqO c F false) a b) (.Compare pa [.Eq] [pb] pos) := by
  obtain ⟨hK, hc, hN, hu, hh⟩ := g
  subst hK
  obtain ⟨fd, h1, h2⟩ := h.ex
  exact se_cmp (op_eqO hmt h1 hr h2 (by omega)) hm (vEqO_ok hC) ha hb
theorem st_eqO (h : Fk X.prog X.w X.K X.mg X.base cl k f ps F) (g : GX K X) (hr : Room k X.A) (hC : cl[c]? = some (C, ns)) (hmt : Meth K C "__eq__" f) (ha : SE K cl X Wx a pa) (hb : SE K cl X Wx b pb) (hm : behindInMarks .Eq pb = false := by rfl) : ST K cl X Wx (mTst (mBin (vEqO c F false) a b)) (.Compare pa [.Eq] [pb] pos) := by
  obtain ⟨hK, hc, hN, hu, hh⟩ := g
  subst hK
  obtain ⟨fd, h1, h2⟩ := h.ex
  exact st_cmp (op_eqO hmt h1 hr h2 (by omega)) hm (vEqO_ok hC) ha hb
theorem st_neO (h : Fk X.prog X.w X.K X.mg X.base cl k f ps F) (nc : NeC K C) (g : GX K X) (hr : Room (k + 1) X.A) (hC : cl[c]? = some (C, ns)) (hmt : Meth K C "__eq__" f) (ha : SE K cl X Wx a pa) (hb : SE K cl X Wx b pb) (hm : behindInMarks .NotEq pb = false := by rfl) : ST K cl X Wx (mTst (mBin (vEqO c F true) a b)) (.Compare pa [.NotEq] [pb] pos) := by
  obtain ⟨hK, hc, hN, hu, hh⟩ := g
  subst hK
  obtain ⟨fd, h1, h2⟩ := h.ex
  exact st_cmp (op_neO nc hmt h1 hr h2 (by omega)) hm (vEqO_ok hC) ha hb
end
def rOwn1 (C : Addr) (sp : Sp) (T : V → Prop) : List V → Hp → VK → Prop := fun xs H Q => ∃ a dx fs, xs = [.ref a] ∧ H a = some (.ins C dx fs) ∧ sp [.ref a] H (fun v H' => T v ∧ Q v H') L2.E0
section
variable {C f : Addr} {fd : FuncData} {ps : List Str} {sp : Sp} {k : Nat}
theorem call_reprO (hmt : Meth X.K C "__repr__" f) (Fk : FnOk X.prog X.w X.K X.mg X.base CX0 k f fd ps sp) (hr : Room (k + 1) X.A) (hb : L2.Binds X.K fd ps []) (hu : X.A.units + 1 < cLine) : CallR X (.builtin "repr") (rOwn1 C sp fun v => ∃ z, v = .str z) := by
  intro pins s σ H xs us Q I r h
  obtain ⟨a, dx, fs, rfl, eH, h⟩ := h
  obtain rfl : us = [.ref a] := by
    cases r with
    | cons r1 r2 =>
      cases r2
      have r1 : _ = Value.ref a := r1
      rw [r1]
  obtain ⟨mA, O, _⟩ := ins_get I.hok eH
  obtain ⟨od, J, _⟩ := O.look
  obtain ⟨m, hF⟩ := I.fr
  refine PySem.W.repr_K hu hF I.ok.mod.kin J hmt.at_ hmt.fn ?_
  refine wpAny_mono (run_in1 (us := [.ref a]) (vs := [.ref a]) (E' := X.xe) Fk hr hb I (.cons rfl .nil) h) (fun w s' z => ?_) fun _ _ z => z
  obtain ⟨v, H', I', rv, ⟨z, ez⟩, q⟩ := z
  subst ez
  obtain ⟨t, rfl⟩ := rv
  exact ⟨.str z, H', I', ⟨t, rfl⟩, q⟩
end
def isStrR : Res W → Res W
  | .ok (.p (.str z)) st => .ok (.p (.str z)) st
  | _ => .no
def isLenR : Res W → Res W
  | .ok (.p (.int i)) st => if 0 ≤ i ∧ i ≤ 1000000 then .ok (.p (.int i)) st else .no
  | _ => .no
def vReprO (c : Nat) (F : FM) (ws : List W) (st : List Cell) : Res W := match ws with
  | [w] => if clsOf st w = some c then isStrR (callF F [w] st) else .no
  | _ => .no
def vLenO (c : Nat) (F : FM) (ws : List W) (st : List Cell) : Res W := match ws with
  | [w] => if clsOf st w = some c then isLenR (callF F [w] st) else .no
  | _ => .no
theorem vReprO_ok {c : Nat} {C : Addr} {ns : List Str} {F : FM} (hC : cl[c]? = some (C, ns)) : VCall K cl (vReprO c F) (rOwn1 C (spF K cl F) fun v => ∃ z, v = .str z) := by
  intro E0 ρ G st H ws vs Q Z R rs h
  unfold vReprO at h
  split at h
  case h_2 => exact h.elim
  rename_i w
  split at h
  case isFalse => exact h.elim
  rename_i hh
  obtain ⟨v, rfl, rv⟩ := rs.one
  obtain ⟨a, dx, us, rfl, hH⟩ := clsOf_ok R rv hh hC
  refine ⟨a, dx, _, rfl, hH, callF_ok R (.cons rv .nil) (ws := [w]) (vs := [.ref a]) ?_⟩
  unfold isStrR at h
  split at h
  · rename_i z st1 e
    rw [e]
    intro ρ' G' H' b p s R' u
    cases u
    exact ⟨⟨z, rfl⟩, h ρ' G' H' _ p s R' (RP.str _)⟩
  · exact h.elim
section
variable {C f : Addr} {ns ps : List Str} {c k : Nat} {F : FM} {a : EM} {pa : Expr} {p pos : Pos}
theorem se_reprO (h : Fk X.prog X.w X.K X.mg X.base cl k f ps F) (g : GX K X) (hr : Room (k + 1) X.A) (hC : cl[c]? = some (C, ns)) (hmt : Meth K C "__repr__" f) (hg : Gl X "repr") (hm : X.mg "repr" = none) (ha : SE K cl X Wx a pa)
    (he : starEach [pa] X.env = (false, eval pa X.env) :: starEach [] X.env := by rfl) (hpl : (backTo pos (starEach [] X.env)).any (·.1) = false := by rfl) : SE K cl X Wx (mCallV (vReprO c F) (mCons a mNil)) (.Call (.Name "repr" p) [pa] [] pos) := by
  obtain ⟨hK, hc, hN, hu, hh⟩ := g
  subst hK
  obtain ⟨fd, h1, h2⟩ := h.ex
  exact se_callB (call_reprO hmt h1 hr h2 (by omega)) (vReprO_ok hC) hg hm rfl (sa_cons ha sa_nil he) (by decide) (by decide +kernel) he hpl
end
end
end Y
namespace Y
open PySem PySem.Spec PyProof.Rows L2
def noxF (F : FM) : FM := fun ws st => (F ws st).nox
def mCallO (c : Nat) (F : FM) (i j : Nat) : EM := fun σ st => match σ[i]?, σ[j]? with
  | some (some x), some (some y) => if clsOf st x = some c then callF F [x, y] st else .no
  | _, _ => .no
def isObjR : Res W → Res W
  | .ok (.p (.obj c l)) st => .ok (.p (.obj c l)) st
  | .exc x st => .exc x st
  | _ => .no
def mBinO (c : Nat) (F : FM) (a b : EM) : EM := fun σ st => (a σ st).bind fun x st1 => (b σ st1).bind fun y st2 => if clsOf st2 x = some c ∧ clsOf st2 y = some c then isObjR (callF F [x, y] st2) else .no
theorem cintB_ok {K : PySem.W.Frag} {C : Addr} {f : Str} {i : Int} (h : cintB K C f i = true) : CIntC K C f i := by
  unfold cintB at h
  simp only [Bool.and_eq_true] at h
  obtain ⟨⟨h1, h2⟩, h3⟩ := h
  refine ⟨⟨h1, He.eqO_ok h2⟩, ?_⟩
  split at h3
  · rename_i j t e
    rw [of_decide_eq_true h3] at e
    exact ⟨t, e⟩
  · cases h3
theorem se_cint {K : PySem.W.Frag} {cl : Cls} {X : Cx} {Wx : WX} {C : Addr} {x f : Str} {i : Int} {p pos : Pos} (c : CIntC K C f i) (g : GX K X) (hg : Gl X x) (hm : X.mg x = some (.ref C)) (hd : (x == ("__debug__" : Str)) = false) (hb : attributeBase (.Name x p) f X.env (eval (.Name x p) X.env) = eval (.Name x p) X.env) :
    SE K cl X Wx (mC (.int i)) (.Attribute (.Name x p) f pos) := by
  obtain ⟨hK, _⟩ := g
  subst hK
  obtain ⟨t, e⟩ := c.at_
  refine ⟨fun E0 ρ G σ st τ H Q R S q => T.of (ClX.pe_cval (pe_glob (v := .ref C) hg hm rfl hd) hb) ?_⟩
  exact ⟨C, .type "type", .int i, .int i t, rfl, c.rd, ⟨e, ⟨t, rfl⟩⟩, Aft.here q R (RP.int i)⟩
end Y
namespace Y
open PySem PySem.Spec PyProof.Rows L2
theorem kit_own {K : PySem.W.Frag} {C : Addr} {t : String} (h : isoB K C = true) (ht : t ∈ tyNames) : PySem.W.kitOne K (.type t) (.ref C) = some false := by
  unfold isoB at h
  have e1 : (Value.type t == Value.ref C) = false := rfl
  unfold PySem.W.kitOne
  rw [e1, if_neg Bool.false_ne_true]
  unfold PySem.W.kitCls
  dsimp only
  rw [if_pos h]
  simp only [tyNames, List.mem_cons, List.not_mem_nil, or_false] at ht
  rcases ht with rfl | rfl | rfl | rfl | rfl | rfl | rfl <;> rfl
theorem insB_ok {K : PySem.W.Frag} {C : Addr} (c : L2.Cls K C) (h : insB K C = true) : InsC K C := by
  unfold insB at h
  simp only [Bool.and_eq_true, decide_eq_true_eq] at h
  obtain ⟨⟨⟨h1, h2⟩, h3⟩, h4⟩ := h
  exact ⟨c, He.eqO_ok h1, He.eqO_ok h2, h3, h4⟩
def mIsO (c : Nat) (tb : List (Nat × Bool)) (a : EM) : EM := fun σ st => (a σ st).bind fun w st1 => match clsOf st1 w with
  | some d => if d = c then .ok (.p (.bl true)) st1 else (match tb.lookup d with | some b => .ok (.p (.bl b)) st1 | none => .no)
  | none => (match tyName st1 w with | some _ => .ok (.p (.bl false)) st1 | none => .no)
section
variable {K : PySem.W.Frag} {cl : Cls} {X : Cx} {Wx : WX}
theorem isoK {c : Nat} {C : Addr} {ns : List Str} {tb : List (Nat × Bool)} {x : Str} {a : EM} {e : Expr} {p q pos : Pos} (g : GX K X) (hC : cl[c]? = some (C, ns)) (hi : isoB K C = true) (ic : InsC K C) (htb : ∀ q ∈ tb, ∃ C' ns, cl[q.1]? = some (C', ns) ∧ InsC K C' ∧ PySem.W.kitOne K (.ref C') (.ref C) = some q.2)
    (hg : Gl X "isinstance") (hm : X.mg "isinstance" = none) (hgx : Gl X x) (hmx : X.mg x = some (.ref C)) (hdb : (x == ("__debug__" : Str)) = false)
    (ha : SE K cl X Wx a e) (hs : starEach [e, .Name x q] X.env = (false, eval e X.env) :: starEach [.Name x q] X.env := by rfl) (hs2 : starEach [.Name x q] X.env = (false, eval (.Name x q) X.env) :: starEach [] X.env := by rfl) (hpl : (backTo pos (starEach [.Name x q] X.env)).any (·.1) = false := by rfl) :
    SE K cl X Wx (mIsO c tb a) (.Call (.Name "isinstance" p) [e, .Name x q] [] pos) := by
  obtain ⟨hK, _⟩ := g
  subst hK
  refine ⟨fun E0 ρ G σ st τ H Q R S h => T.of (pe_callB call_isi hg hm (by decide +kernel) (pa_cons T.pe (pa_cons (pe_glob (v := .ref C) hgx hmx rfl hdb) pa_nil hs2) hs) (by decide +kernel) (by decide +kernel) hs hpl) ?_⟩
  refine ha.run E0 ρ G σ st τ H _ R S (Aft.seq h fun w st1 ρ1 G1 H1 v e1 p1 s1 R1 u1 h1 => ?_)
  split at h1
  · rename_i d ed
    split at h1
    · rename_i hd
      subst hd
      obtain ⟨b, dx, vs, rfl, hH⟩ := clsOf_ok R1 u1 ed hC
      exact ⟨.ref b, .ref C, _, _, true, rfl, .own C, .base (.ins hH ic.cl ic.ha ic.hn ic.ht ic.hm), (by unfold PySem.W.kitOne; rw [if_pos (by simp)]), h1.here R1 (RP.bl _)⟩
    · split at h1
      · rename_i k ek
        obtain ⟨C', ns', h2, ic2, h3⟩ := htb _ (lookup_memG ek)
        obtain ⟨b, dx, vs, rfl, hH⟩ := clsOf_ok R1 u1 ed h2
        exact ⟨.ref b, .ref C, _, _, k, rfl, .own C, .base (.ins hH ic2.cl ic2.ha ic2.hn ic2.ht ic2.hm), h3, h1.here R1 (RP.bl _)⟩
      · exact h1.elim
  · split at h1
    · rename_i t et
      obtain ⟨t1, t2⟩ := tyName_ok R1 u1 et
      exact ⟨v, .ref C, _, _, false, rfl, .own C, t1, kit_own hi t2, h1.here R1 (RP.bl _)⟩
    · exact h1.elim
end
end Y
namespace Y
open PySem PySem.Spec PyProof.Rows L2
def sortI (l : List Int) : List Int := l.mergeSort fun a b => decide (a ≤ b)
def tupP (q : Int × Int) : P := .tup [.int q.1, .int q.2]
def pairsOf : List P → Option (List (Int × Int))
  | [] => some []
  | .tup [.int i, .int j] :: l => if 0 ≤ i ∧ i < 1000 ∧ 0 ≤ j ∧ j < 1000 then (pairsOf l).map ((i, j) :: ·) else none
  | _ => none
def smallQ (q : Int × Int) : Prop := 0 ≤ q.1 ∧ q.1 < 1000 ∧ 0 ≤ q.2 ∧ q.2 < 1000
def cdP (q : Int × Int) : Int := q.1 * 1000 + q.2
def sortP (l : List (Int × Int)) : List (Int × Int) := l.mergeSort fun a b => decide (cdP a ≤ cdP b)
section
variable {K : PySem.W.Frag} {cl : Cls} {X : Cx} {Wx : WX} {E0 : En} {ρ ρ' : List Addr} {G G' : Hp} {σ : Sg} {τ : L2.St} {st : List Cell} {H : Hp} {D : Ends}
theorem RPs.perm {f : Int × Int → P} {xs ys : List V} (p : xs.Perm ys) : ∀ {l : List (Int × Int)}, RPs K cl G (l.map f) xs → ∃ m : List (Int × Int), m.Perm l ∧ RPs K cl G (m.map f) ys := by
  induction p with
  | nil => intro l r; exact ⟨l, .refl _, r⟩
  | cons x p ih =>
    intro l r
    cases l with
    | nil => cases r
    | cons a l =>
      cases r with
      | cons h r =>
        obtain ⟨m, q, r2⟩ := ih r
        exact ⟨a :: m, q.cons a, .cons h r2⟩
  | swap x y p =>
    intro l r
    match l, r with
    | a :: b :: l, .cons h (.cons h2 r) => exact ⟨b :: a :: l, .swap a b l, .cons h2 (.cons h r)⟩
  | trans p1 p2 i1 i2 =>
    intro l r
    obtain ⟨m, q, r2⟩ := i1 r
    obtain ⟨m2, q2, r3⟩ := i2 r2
    exact ⟨m2, q2.trans q, r3⟩
def srtL (l : List P) : Option (List P) := match intsOf l with
  | some m => some ((sortI m).map P.int)
  | none => match pairsOf l with
    | some m => if m.length < 1000 then some ((sortP m).map tupP) else none
    | none => none
def vSorted (ws : List W) (st : List Cell) : Res W := match ws with
  | [.p (.tup l)] => (match pairsOf l with
    | some m => if m.length < 64 then .ok (.p (.lst ((sortP m).map tupP))) st else .no
    | none => .no)
  | [w] => (match listOf st w with
    | some l => (match srtL l with
      | some m => .ok (.p (.lst m)) st
      | none => .no)
    | none => .no)
  | _ => .no
theorem fresh_lst {l : List P} {vs : List V} {p : Addr} {Q : VK} {Z : ZX} (R : (bs K cl E0).Rel ρ G st H) (hp : H p = none) (r : RPs K cl G l vs) (h : Aft (bs K cl E0) (bs K cl E0).RW ρ G (.ok (.p (.lst l)) st) Q Z) : Q (.ref p) (upd H p (.lst vs)) :=
  h ρ _ _ (.ref p) (List.prefix_refl _) (Sub.new (R.gnone hp)) (R.froze hp) (.lst upd_same (r.mono (Sub.new (R.gnone hp))))
end
end Y
namespace Y
open PySem PySem.Spec PyProof.Rows L2
section
variable {K : PySem.W.Frag} {cl : Cls} {X : Cx} {Wx : WX} {E0 : En} {ρ ρ' : List Addr} {G G' : Hp} {σ : Sg} {τ : L2.St} {st : List Cell} {H : Hp} {D : Ends}
def mListRng (a : EM) : EM := fun σ st => (a σ st).bind fun w st1 => match w with
  | .p (.int n) => if 0 ≤ n ∧ n ≤ 1000000 then .ok (.p (.lst ((List.range n.toNat).map fun (i : Nat) => P.int (i : Int)))) st1 else .no
  | _ => .no
def mRevL (a : EM) : EM := fun σ st => (a σ st).bind fun w st1 => match listOf st1 w with
  | some l => .ok (.p (.lst l.reverse)) st1
  | none => .no
theorem se_revL {a : EM} {e : Expr} {k : Nat} {p1 p2 p3 pos : Pos} (ha : SE K cl X Wx a e) : SE K cl X Wx (mRevL a) (.Subscript e (.Slice none none (some (.UnaryOp .USub (.Constant (.int 1) k p1) p2)) p3) pos) := by
  refine ⟨fun E0 ρ G σ st τ H Q R S h => T.of (pe_revL T.pe) ?_⟩
  refine ha.run E0 ρ G σ st τ H _ R S (Aft.seq h fun w st1 ρ1 G1 H1 v e1 p1 s1 R1 u1 h1 => ?_)
  split at h1
  · rename_i l el
    obtain ⟨b, vs, rfl, hb, q⟩ := listOf_ok R1 u1 el
    exact ⟨b, vs, rfl, .inl (.inl hb), fun l hl => fresh_lst R1 hl q.reverse h1⟩
  · exact h1.elim
def vCount (x : W) (ws : List W) (st : List Cell) : Res W := match x, ws with
  | .p (.str a), [.p (.str b)] => .ok (.p (.int (Txt.count a b))) st
  | _, _ => .no
def mDisp1 (mk mv : EM) : EM := fun σ st => (mk σ st).nox.bind fun x st1 => (mv σ st1).nox.bind fun y st2 => match x with
  | .p z => match keyP z with
    | some k => .ok (.r st2.length) (st2 ++ [.dk [k] [y]])
    | none => .no
  | _ => .no
def hasK (ks : List Key) (k : Key) : Bool := ks.any fun j => decide (j = k)
def keysW (st : List Cell) : W → Option (List Key)
  | .p (.dk ks _) => some ks
  | .r i => (match st[i]? with
    | some (.dk ks _) => some ks
    | _ => none)
  | _ => none
def vInK (neg : Bool) (x y : W) (st : List Cell) : Res W := match x with
  | .p z => (match keyP z, keysW st y with
    | some k, some ks => .ok (.p (.bl (hasK ks k != neg))) st
    | _, _ => .no)
  | _ => .no
def dkPut (ks : List Key) (l : List W) (k : Key) (w : W) : List Key × List W :=
  if hasK ks k = true then (ks, List.zipWith (fun j x => if j = k then w else x) ks l) else (ks ++ [k], l ++ [w])
def sPutK (o ix m : EM) : SMm := fun σ st => (m σ st).to σ fun x st1 => (o σ st1).to σ fun w st2 => (ix σ st2).to σ fun k st3 => match w, k with
  | .r i, .p z => match st3[i]?, keyP z with
    | some (.dk ks l), some kk => if ks.length < 1000000 then .ok .nx σ (st3.set i (.dk (dkPut ks l kk x).1 (dkPut ks l kk x).2)) else .no
    | _, _ => .no
  | _, _ => .no
theorem RWs.dkGet {l : List W} {vs : List V} (q : RWs K cl ρ G l vs) : ∀ {ks : List Key} {k : Key} {x : W}, Y.dkGet ks l k = some x → ∃ v, valV (ks.zip vs) k = some v ∧ RW K cl ρ G x v := by
  induction q with
  | nil => intro ks k x e; cases ks <;> (unfold Y.dkGet at e; simp at e)
  | @cons w v l vs r rs ih =>
    intro ks k x e
    cases ks with
    | nil => unfold Y.dkGet at e; simp at e
    | cons j ks =>
      unfold Y.dkGet at e
      rw [List.zip_cons_cons, List.find?_cons] at e
      by_cases hj : j = k
      · rw [show decide ((j, w).1 = k) = true from decide_eq_true hj] at e
        simp at e
        subst e
        exact ⟨v, by rw [List.zip_cons_cons]; exact valV_pos hj, r⟩
      · rw [show decide ((j, w).1 = k) = false from decide_eq_false hj] at e
        obtain ⟨v', e1, r1⟩ := ih (ks := ks) (k := k) (x := x) e
        exact ⟨v', by rw [List.zip_cons_cons, valV_neg hj]; exact e1, r1⟩
def mDGetC (o a : EM) : EM := fun σ st => (o σ st).bind fun w st1 => (a σ st1).bind fun x st2 => match w, x with
  | .r i, .p y => match st2[i]?, keyP y with
    | some (.dk ks l), some k => (match dkGet ks l k with
      | some z => .ok z st2
      | none => .no)
    | _, _ => .no
  | _, _ => .no
end
end Y
namespace Y
open PySem PySem.Spec PyProof.Rows L2
def strRep (a : Str) (n : Nat) : Str := ⟨(List.replicate n a.cps.toList).flatten.toArray⟩
section
variable {K : PySem.W.Frag} {cl : Cls} {X : Cx} {Wx : WX} {E0 : En} {ρ ρ' : List Addr} {G G' : Hp} {σ : Sg} {τ : L2.St} {st : List Cell} {H : Hp} {D : Ends}
def vMulS (x y : W) (st : List Cell) : Res W := match x, y with
  | .p (.str a), .p (.int n) => if 0 ≤ n ∧ n ≤ 1000 ∧ a.length ≤ 1000 then .ok (.p (.str (strRep a n.toNat))) st else .no
  | _, _ => .no
end
end Y
namespace Y
open PySem PySem.Spec PyProof.Rows L2
open LamX (CodeO ExtN TabB lamCx lamEnv GivesTo)
section
variable {X : Cx}
theorem pe_lcK {Kn : L2.St → Shared → Hp → List Addr → Prop} {elt tg iter : Expr} {scope : Scope} {own : List (Str × Nat)} {pos : Pos} {wi : TI} {g : TG} {te : L2.St → TE} (hc : X.calm = true) (hN : X.N.Nodup) (hi : PI X tg iter wi) (ok : BlkOk X.N X.env.scope scope own)
    (hk : ∀ pins σ H s fp, Inv X pins σ H s → (∀ b ∈ fp, FpOk X pins H b) → Kn σ s H fp)
    (hg : ∀ (s : Shared) (H : Hp) (C : Addr) (cl : List (Str × Addr)) (fp : List Addr), PG (X.blk s H scope (compEnvC scope cl C X.env) fp) tg g)
    (he : ∀ (τ : L2.St) (s : Shared) (H : Hp) (C : Addr) (cl : List (Str × Addr)) (fp : List Addr), Kn τ s H fp → PE (X.blk s H scope (compEnvC scope cl C X.env) fp) elt (te τ)) (hs : ∀ x, foldedSetIterable iter X.env x = pure x := by intro _; rfl) :
    PE X (.ListComp elt [⟨tg, iter, [], 0⟩] scope pos) (fun σ H Q => tLc wi g tYes (te σ) (own.map (·.2)) σ H Q) := by
  refine ⟨fun pins s σ H Q I h => ?_⟩
  rw [eval_ListComp]
  have cells : ∀ y ∈ scope.names, y.2 = .free → ∃ c, X.env.cells.lookup y.1 = some c := fun y hy e => (ok.free y hy e).elim (fun k => I.ok.has _ (.inl k)) fun k => I.ok.has _ (.inr k)
  refine wpAny_comprehension_free (use := none) rfl hs (closure_ok cells) ok.kind (fun y hy e => by rw [ok.uniq y hy, e]) (thn (hi.run pins s σ H _ I h) fun xv s1 hx => thn hx fun itv s2 h2 => ?_)
  obtain ⟨it, fp, tn, J, H2, rfl, I2, T, t0, f2, q⟩ := h2
  refine wpAny_newObj_type (newEnv_comp ?_) (by show 0 ≤ sizeLine; decide)
  -- the list that is filled: at L
  obtain ⟨L, hL⟩ : ∃ L, s2.heap.objs.size = L := ⟨_, rfl⟩
  obtain ⟨W, ⟨m0, w0⟩, turn⟩ := q L (I2.hok.fresh (Nat.le_of_eq hL))
  have kp : ∀ b o, s2.heap.get? b = some o → (s2.heap.push { cls := .type "list", data := .seq ([] : List Value).toArray }).get? b = some o := fun b o e => Heap.get?_push_of_some _ e
  have IL : Inv X pins σ (upd H2 L (.lst [])) { s2 with heap := s2.heap.push { cls := .type "list", data := .seq ([] : List Value).toArray } } :=
    I2.laid (t' := s2.toks) kp (Nat.le_of_eq hL) ⟨Nat.zero_le _, [], 0, .nil, by rw [← hL]; exact Heap.get?_push_size _ rfl⟩
  have fL : ∀ b ∈ fp, FpOk X pins (upd H2 L (.lst [])) b ∧ b < (s2.heap.push { cls := .type "list", data := .seq ([] : List Value).toArray }).objs.size := fun b hb => by
    obtain ⟨o, e, _⟩ := T.obj _ _ t0 b hb
    have hlt := Heap.lt_size e
    exact ⟨⟨by rw [upd_ne (by rw [← hL]; exact Nat.ne_of_lt hlt)]; exact (f2 b hb).1, (f2 b hb).2⟩, by rw [Heap.size_push]; exact Nat.lt_succ_of_lt hlt⟩
  have tL := T.keep _ _ _ t0 fun b _ o e => kp b o e
  rw [hL]
  obtain ⟨s3, hs3⟩ : ∃ s3 : Shared, ({ s2 with heap := s2.heap.push { cls := .type "list", data := .seq ([] : List Value).toArray } } : Shared) = s3 := ⟨_, rfl⟩
  have e3 : s2.heap.push { cls := .type "list", data := .seq ([] : List Value).toArray } = s3.heap := by rw [← hs3]
  rw [hs3] at IL
  rw [e3] at fL tL
  have B := block_start IL ok hN fL
  obtain ⟨H3, hH3⟩ : ∃ H3 : Hp, upd H2 L (.lst []) = H3 := ⟨_, rfl⟩
  rw [hH3] at IL B w0 fL
  have pg := hg s3 H3 s3.heap.objs.size (cellsFrom (s3.heap.objs.size + 1) scope.names (cloFrom X.env.cells scope.names [])) fp
  have pe := he σ s3 H3 s3.heap.objs.size (cellsFrom (s3.heap.objs.size + 1) scope.names (cloFrom X.env.cells scope.names [])) fp (hk pins σ H3 s3 fp IL fun b hb => (fL b hb).1)
  have tB : tn 0 (pushCells (s3.heap.push { cls := .type "dict", data := .dict #[] }) scope.names) := T.keep _ _ _ tL fun b _ o e => pushCells_keeps _ _ _ _ (Heap.get?_push_of_some _ e)
  show codeAny _ _ (.compStart (.ListComp elt [⟨tg, iter, [], 0⟩] scope pos) 0 (.ref it) (.ref L) (compEnvC scope (cellsFrom ((s2.heap.push { cls := .type "list", data := .seq ([] : List Value).toArray }).objs.size + 1) scope.names (cloFrom X.env.cells scope.names [])) (s2.heap.push { cls := .type "list", data := .seq ([] : List Value).toArray }).objs.size X.env)) _ { s2 with heap := pushCells ((s2.heap.push { cls := .type "list", data := .seq ([] : List Value).toArray }).push { cls := .type "dict", data := .dict #[] }) scope.names }
  rw [e3]
  rw [show ({ s2 with heap := pushCells (s3.heap.push { cls := .type "dict", data := .dict #[] }) scope.names } : Shared) = { s3 with heap := pushCells (s3.heap.push { cls := .type "dict", data := .dict #[] }) scope.names } by rw [← hs3]]
  obtain ⟨sb, hsb⟩ : ∃ sb : Shared, ({ s3 with heap := pushCells (s3.heap.push { cls := .type "dict", data := .dict #[] }) scope.names } : Shared) = sb := ⟨_, rfl⟩
  rw [hsb] at B ⊢
  have tB : tn 0 sb.heap := by rw [← hsb]; exact tB
  have hloc : (compEnvC scope (cellsFrom (s3.heap.objs.size + 1) scope.names (cloFrom X.env.cells scope.names [])) s3.heap.objs.size X.env).locals = s3.heap.objs.size := rfl
  generalize compEnvC scope (cellsFrom (s3.heap.objs.size + 1) scope.names (cloFrom X.env.cells scope.names [])) s3.heap.objs.size X.env = ce at B pg pe hloc ⊢
  -- the iterator's objects, seen from the block
  have fB : ∀ {τ : L2.St} {H' : Hp} {s' : Shared}, Inv (X.blk s3 H3 scope ce fp) [] τ H' s' → (∀ b ∈ fp, H' b = none) → ∀ b ∈ fp, FpOk (X.blk s3 H3 scope ce fp) [] H' b := fun I' hn b hb =>
    ⟨hn b hb, (I'.ok.exf b hb).1, I'.ok.exfs b hb, .inl hb, (I'.ok.exf b hb).2, fun p hp => nomatch (show p ∈ ([] : List (Addr × Obj)) ++ [] from hp)⟩
  have back : ∀ {τ : L2.St} {H' : Hp} {s' : Shared}, Inv (X.blk s3 H3 scope ce fp) [] τ H' s' → Q (.ref L) H' → compPost (model X.prog X.w) X.A X.xe none (EP X pins σ Q) (.ref L) s3.heap.objs.size (.ok .next) s' := fun {τ H' s'} I' qq => by
    have J' : Inv X pins σ H' s' := IL.call' (ch := fp) I'.os I'.base I'.hok I'.bare fun b hb => ⟨(fL b hb).1.2.2.2.1, (fL b hb).1.2.1, (fL b hb).1.2.2.2.2.1, (fL b hb).1.2.2.2.2.2⟩
    have nB : H' s3.heap.objs.size = none := by have z : H' ce.locals = none := I'.free; rwa [hloc] at z
    obtain ⟨m, hn, _⟩ := I'.loc
    have hn : s'.heap.Ns ce.locals m := hn
    rw [hloc] at hn
    obtain ⟨f0, f1, f2, f3, f4, f5⟩ := IL.fpOk (Nat.le_refl _) nB
    exact ⟨m, hn, fun h'' same => ⟨.ref L, H', J'.turned (t' := s'.toks) (fun b o hb e => (same.2 b hb).trans e) f0 f1 f3 f4 f5, rfl, qq⟩⟩
  have loop : codeAny (model X.prog X.w) X.A (.compLoop (.ListComp elt [⟨tg, iter, [], 0⟩] scope pos) 0 (.ref it) (.ref L) ce) (compPost (model X.prog X.w) X.A X.xe none (EP X pins σ Q) (.ref L) s3.heap.objs.size) sb := by
    refine compLoop_any (fun n s' => ∃ i H', Inv (X.blk s3 H3 scope ce fp) [] (wipe σ (own.map (·.2))) H' s' ∧ tn i s'.heap ∧ (∀ b ∈ fp, H' b = none) ∧ W i n H') ?_ m0 ⟨0, H3, B, tB, fun b hb => (fL b hb).1.1, w0⟩
    rintro n s5 ⟨i, H5, I5, t5, n5, w5⟩
    rcases turn i n H5 w5 with ⟨stop, qq⟩ | ⟨go, Nx, hNx, step⟩
    · refine thnF (T.done (X.blk s3 H3 scope ce fp) rfl rfl rfl hc i [] s5 _ H5 (fun _ _ => False) I5 (fB I5 n5) t5 stop) fun r s6 ⟨hr, I6⟩ => ?_
      subst hr
      exact back I6 qq
    · refine thnF (T.item (X.blk s3 H3 scope ce fp) rfl rfl rfl hc i [] s5 _ H5 (fun _ _ => False) I5 (fB I5 n5) t5 go) fun r s6 ⟨u, hr, h6⟩ => ?_
      subst hr
      refine thnF h6 fun _ s7 ⟨x, H7, I7, r7, y7, t7, n7⟩ => ?_
      refine thnF (pg.run _ s7 _ H7 x u _ (I7.pinned (fB I7 n7) (T.obj _ _ t7)) r7 (step x H7 y7)) fun _ s8 ⟨σ8, H8, I8, hw8, q8⟩ => ?_
      refine wpAny_tests_nil ?_
      simp only [if_true]
      have q8 : te σ σ8 H8 _ := q8
      refine thnF (pe.run _ s8 σ8 H8 _ I8 q8) fun z s9 ⟨yv, H9, I9, r9, acc, hL9, hz9, nx⟩ => ?_
      refine app_ok (X := X.blk s3 H3 scope ce fp) I9 hL9 hz9 r9 fun s' I' => ?_
      obtain ⟨m', hm, w'⟩ := hNx _ nx
      have held : ∀ b ∈ fp, ∀ o, s7.heap.get? b = some o → s'.heap.get? b = some o ∧ upd H9 L (.lst (acc ++ [yv])) b = none := fun b hb o e =>
        have z := I'.pin (b, o) (List.mem_append_right _ (List.mem_append_right _ (mem_pinsAt hb e)))
        ⟨z.1, z.2.1⟩
      refine ⟨m', hm, i + 1, _, (I'.unpinned (pins := [])).weak (by rw [← hw8, wipe_length]) (fun j v e => ?_), T.keep _ _ _ t7 fun b hb o e => (held b hb o e).1, fun b hb => ?_, w'⟩
      · rw [← hw8] at e
        exact (wipe_some e).1
      · obtain ⟨o, e, _⟩ := T.obj _ _ t7 b hb
        exact (held b hb o e).2
  exact codeAny_compStart_list loop (T.self X.A 0 _ _ _ tB loop)
end
end Y
namespace Y
open PySem PySem.Spec PyProof.Rows L2
open LamX (CodeO ExtN TabB lamCx lamEnv GivesTo)
def mLcT (m : IM) (t : Tg) (vs : List Nat) (e : Sg → EM) (fin : List W → List Cell → Res W) : EM := fun σ st => mLc m t vs mYes (e σ) fin σ st
def tryO (tb : List (Nat × Str × Option Str)) (J : Nat) (ms : List EM) (e : EM) (σ0 : Sg) : EM := fun σ st => (e σ st).bind fun w st1 => match w with
  | .p (.lam j i) => if j = J then (match ms[i]? with | some b => mTryL tb b σ0 st1 | none => .no) else .no
  | _ => .no
def wordO (tb : List (Nat × Str × Option Str)) (J : Nat) (ms : List EM) (e : EM) (σ0 : Sg) : EM := fun σ st => (e σ st).bind fun w st1 => match w with
  | .p (.lam j i) => if j = J then (match ms[i]? with | some b => (mTryL tb b σ0 st1).bind headK | none => .no) else .no
  | _ => .no
section
variable {K : PySem.W.Frag} {cl : Cls} {X : Cx} {Wx : WX} {E0 : En} {ρ : List Addr} {G : Hp} {σ : Sg} {st : List Cell} {τ : L2.St} {H : Hp}
def KnF (X : Cx) (τ : L2.St) (s : Shared) (H : Hp) (fp : List Addr) : Prop := CFc X.N X.env.scope X.env.cells τ s.heap H ∧ ∀ x a, X.env.cells.lookup x = some a → a ∉ fp
theorem knF {pins : List (Addr × Obj)} {s : Shared} {fp : List Addr} (I : Inv X pins τ H s) (f : ∀ b ∈ fp, FpOk X pins H b) : KnF X τ s H fp :=
  ⟨Inv.cfc I, fun x a e hm => (f a hm).2.2.2.2.1 x a e rfl⟩
def SLo (K : PySem.W.Frag) (cl : Cls) (X : Cx) (scope : Scope) (e : Sg → EM) (elt : Expr) : Prop := ∀ (j : BJ) E0 ρ G σ0 τ0 σ st τ H Q, KnF X τ0 j.1 j.2.1 j.2.2.2.2 → (bs K cl E0).Rel ρ G st H → RS K cl ρ G σ0 τ0 → RS K cl ρ G σ τ →
  Aft (bs K cl E0) (bs K cl E0).RW ρ G (e σ0 σ st) Q (fun _ _ _ => False) → T (Xb X scope j) elt τ H Q
theorem lcT_sound {m : IM} {t : Tg} {vs : List Nat} {e : Sg → EM} {fin : List W → List Cell → Res W} {tg iter elt : Expr} {scope : Scope} {Q : VK} (hf : FinOk K cl fin)
    (hi : SI K cl X Wx tg m iter) (ht : ∀ j, SG K cl (Xb X scope j) t tg) (hv : ∀ i ∈ t.slots, i ∈ vs) (he : SLo K cl X scope e elt)
    (R : (bs K cl E0).Rel ρ G st H) (S : RS K cl ρ G σ τ) (h : Aft (bs K cl E0) (bs K cl E0).RW ρ G (mLcT m t vs e fin σ st) Q (fun c d H' => Wx c d τ H')) :
    tLc (TIc X tg iter) (fun v σ H Q => ∀ j, TGc (Xb X scope j) tg v σ H Q) tYes (fun σ H Q => ∀ j : BJ, KnF X τ j.1 j.2.1 j.2.2.2.2 → T (Xb X scope j) elt σ H Q) vs τ H Q := by
  refine hi.run E0 ρ G σ st τ H _ R S (Aft.seq h fun src st1 ρ1 G1 H1 J e1 p1 s1 R1 wok h1 => ?_)
  intro Dd hD
  split at h1
  case isFalse => exact h1.elim
  rename_i hn
  refine ⟨fun i k H' => ∃ ρ' G' st' acc Gh vl, ρ1 <+: ρ' ∧ Sub G1 G' ∧ Hd K cl E0 Dd ρ' G' st' H' acc Gh vl ∧ acc.length ≤ i ∧ i + k ≤ src.n + 1 ∧
    Aft (bs K cl E0) (bs K cl E0).RW ρ' G' ((lcF src t mYes (e σ) (wipeS σ vs) k i st').bind fun ws st3 => fin (acc ++ ws) st3) Q (fun c d H' => Wx c d τ H'), ⟨src.n + 1, ρ1, G1, st1, [], G1, [], List.prefix_refl _, Sub.refl _, Hd.start R1 hD, Nat.le_refl _, by omega, h1⟩, ?_⟩
  rintro i k H2 ⟨ρ2, G2, st2, acc, Gh, vl, p2, s2, hd, ha, hk, q2⟩
  cases k with
  | zero => exact q2.elim
  | succ k =>
    have w2 := wok _ ρ2 G2 st2 H2 i p2 s2 hd.R
    unfold lcF at q2
    cases eg : src.get st2 i with
    | none => rw [eg] at q2; exact q2.elim
    | some ow =>
      rw [eg] at q2 w2
      cases ow with
      | none =>
        refine .inl ⟨w2, ?_⟩
        have q2 : Aft (bs K cl E0) (bs K cl E0).RW ρ2 G2 (fin (acc ++ []) st2) Q (fun c d H' => Wx c d τ H') := q2
        rw [List.append_nil] at q2
        exact hf _ _ _ _ _ _ _ _ _ _ _ hd q2
      | some w =>
        dsimp only at q2 w2
        refine .inr ⟨w2.1, fun H' => ∃ ρ' G' st' acc Gh vl, ρ1 <+: ρ' ∧ Sub G1 G' ∧ Hd K cl E0 Dd ρ' G' st' H' acc Gh vl ∧ acc.length ≤ i + 1 ∧ i + 1 + k ≤ src.n + 1 ∧
          Aft (bs K cl E0) (bs K cl E0).RW ρ' G' ((lcF src t mYes (e σ) (wipeS σ vs) k (i + 1) st').bind fun ws st3 => fin (acc ++ ws) st3) Q (fun c d H' => Wx c d τ H'), fun H' z => ⟨k, Nat.lt_succ_self k, z⟩, fun x H3 y => ?_⟩
        obtain ⟨G3, s3, R3, r3⟩ := w2.2 x H3 y
        have hd3 := hd.next (List.prefix_refl _) s3 R3
        cases ep : t.put w (wipeS σ vs) with
        | none => rw [ep] at q2; exact q2.elim
        | some σ3 =>
          rw [ep] at q2
          dsimp only at q2
          intro j
          have S0 := S.mono (p1.trans p2) (s1.trans (s2.trans s3))
          refine (ht j).run ρ2 G3 H3 w x (wipeS σ vs) σ3 _ _ R3.sub (S0.wipe vs) r3 ep fun τ3 S3 w3 => ⟨(w3 vs hv).trans wipe_wipe, ?_⟩
          unfold tYes
          simp only [if_true]
          intro j hj
          have q3 := Aft.mono (List.prefix_refl _) s3 q2
          rw [Res.bind_bind] at q3
          have q3 : Aft (bs K cl E0) (bs K cl E0).RW ρ2 G3 (((e σ σ3 st2).nox.bind fun w st2 => (lcF src t mYes (e σ) (wipeS σ vs) k (i + 1) st2).bind fun ws st3 => .ok (w :: ws) st3).bind fun ws st3 => fin (acc ++ ws) st3) Q (fun c d H' => Wx c d τ H') := q3
          rw [Res.bind_bind] at q3
          refine he j _ ρ2 G3 σ τ σ3 st2 τ3 H3 _ hj hd3.R S0 S3 (Aft.seqH q3 fun w st5 ρ5 G5 H5 yv e5 p5 s5 R5 u5 q5 => ?_)
          have hd5 := hd3.next p5 s5 R5
          refine ⟨vl, hd5.held.1, by rw [← hd5.rw.length]; exact lim_sz (by omega), ρ5, G5, st5, acc ++ [w], _, _, p2.trans p5, s2.trans (s3.trans s5), hd5.push u5, by rw [List.length_append]; simp; exact ha, by omega, ?_⟩
          rw [Res.bind_bind] at q5
          simp only [List.append_assoc, List.singleton_append]
          exact q5
theorem se_lcT {m : IM} {t : Tg} {vs : List Nat} {e : Sg → EM} {fin : List W → List Cell → Res W} {tg iter elt : Expr} {scope : Scope} {own : List (Str × Nat)} {pos : Pos} (g : GX K X) (hf : FinOk K cl fin)
    (ok : blkC X.N X.env.scope scope own = true) (hvs : own.map (·.2) = vs) (hi : SI K cl X Wx tg m iter) (hv : t.slots.all (fun i => decide (i ∈ vs)) = true) (ht : ∀ j, SG K cl (Xb X scope j) t tg) (he : SLo K cl X scope e elt)
    (hs : ∀ x, foldedSetIterable iter X.env x = pure x := by intro _; rfl) : SE K cl X Wx (mLcT m t vs e fin) (.ListComp elt [⟨tg, iter, [], 0⟩] scope pos) := by
  subst hvs
  refine ⟨fun E0 ρ G σ st τ H Q R S h => T.of (pe_lcK (Kn := KnF X) (g := fun v σ H Q => ∀ j, TGc (Xb X scope j) tg v σ H Q) (te := fun τ σ H Q => ∀ j : BJ, KnF X τ j.1 j.2.1 j.2.2.2.2 → T (Xb X scope j) elt σ H Q) g.hc g.hN TIc.pi (blkOk_by ok)
    (fun pins σ H s fp I f => knF I f) (fun s H C cl fp => ⟨fun pins s' σ H' v u Q I r h => h (s, H, C, cl, fp) pins s' u I r⟩) (fun τ s H C cl fp kn => ⟨fun pins s' σ H' Q I h => h (s, H, C, cl, fp) kn pins s' I⟩) hs) ?_⟩
  exact lcT_sound hf hi ht (fun i hm => by simpa using List.all_eq_true.mp hv i hm) he R S h
theorem KnF.now {scope : Scope} {j : BJ} {pins : List (Addr × Obj)} {τ0 : L2.St} {s : Shared} (kn : KnF X τ0 j.1 j.2.1 j.2.2.2.2) (I : Inv (Xb X scope j) pins τ H s) : CFc X.N X.env.scope X.env.cells τ0 s.heap H := by
  have un : Un (frs (Xb X scope j).outer) j.2.2.2.2 j.2.1 H j.1.heap s.heap := I.base
  exact kn.1.un un kn.2
theorem so_try {tb : List (Nat × Str × Option Str)} {x : Str} {g CS CM CN : Addr} {k J : Nat} {ms : List EM} {m : EM} {e : Expr} {p pos : Pos} {scope : Scope} (D : LamD X.prog X.w X.K X.mg X.base x g CS CM CN) (ok : ∀ q ∈ tb, TryC X.K cl CS CM CN q.1 q.2.1 q.2.2) (gx : GX K X) (hr : Room (k + 2) X.A)
    (hg : ∀ j, Gl (Xb X scope j) x) (hm : X.mg x = some (.ref g)) (hf : cl.fr[J]? = some (X.env.qual ++ ("<lambda>" : Str), X.env.cells)) (hb : LamsOk K cl X k 0 ms) (he : ∀ j, SE K cl (Xb X scope j) WF m e)
    (hdb : (x == ("__debug__" : Str)) = false) (hst : ∀ env, starEach [e] env = (false, eval e env) :: starEach [] env := by intro _; rfl) : SLo K cl X scope (tryO tb J ms m) (.Call (.Name x p) [e] [] pos) := by
  have hK := gx.hK
  subst hK
  intro j E0 ρ G σ0 τ0 σ st τ H Q kn R S0 S h pins s I
  refine wpAny_Call_Name_kw (ld_glob I (hg j) hm ?_ hdb)
  refine PySem.W.callWith_K (h₀ := X.base) I.ok.mod.kin D.kp ?_ (by rw [hst]) (by rfl)
  rw [hst]
  show wpAny _ _ (spliced ((false, eval e (Xb X scope j).env) :: backTo pos (starEach [] (Xb X scope j).env))) _ _ _
  refine Calls.spliced_cons ?_
  have hT := (he j).run E0 ρ G σ st τ H (fun v H1 => ∃ w st1 ρ1 G1, ρ <+: ρ1 ∧ Sub G G1 ∧ (bs X.K cl E0).Rel ρ1 G1 st1 H1 ∧ RW X.K cl ρ1 G1 w v ∧ Aft (bs X.K cl E0) (bs X.K cl E0).RW ρ1 G1 (match w with
      | .p (.lam j i) => if j = J then (match ms[i]? with | some b => mTryL tb b σ0 st1 | none => .no) else .no
      | _ => .no) Q (fun _ _ _ => False)) R S (Aft.seq h fun w st1 ρ1 G1 H1 v _ p1 s1 R1 u1 h1 => ⟨w, st1, ρ1, G1, p1, s1, R1, u1, h1⟩)
  refine thn (hT pins _ I) fun u s1 hv => ?_
  obtain ⟨v, H1, I1, rv, w, st1, ρ1, G1, p1, s1', R1, u1, h1⟩ := hv
  refine Calls.spliced_nil ⟨I1.kIn, ?_⟩
  split at h1
  case h_2 => exact h1.elim
  rename_i j' i
  split at h1
  case isFalse => exact h1.elim
  rename_i hj
  subst hj
  split at h1
  case h_2 => exact h1.elim
  rename_i b hbi
  have hb1 := hb.get hbi
  rw [Nat.zero_add] at hb1
  exact call_try (X0 := X) (X := Xb X scope j) D ⟨rfl, rfl, rfl, rfl, rfl⟩ ok gx hr hf hb1 I1 (kn.now I1) R1 (S0.mono p1 s1') u1 rv h1
theorem RPs.rep {l : List P} {vs : List V} (q : RPs K cl G l vs) : ∀ n : Nat, RPs K cl G (List.replicate n l).flatten (List.replicate n vs).flatten
  | 0 => .nil
  | n + 1 => by
    rw [List.replicate_succ, List.replicate_succ, List.flatten_cons, List.flatten_cons]
    exact q.append (RPs.rep q n)
def vMulL (x y : W) (st : List Cell) : Res W := match x, y with
  | .p (.lst l), .p (.int n) => if 0 ≤ n ∧ n ≤ 1000 ∧ l.length ≤ 1000 then .ok (.p (.lst (List.replicate n.toNat l).flatten)) st else .no
  | _, _ => .no
theorem vMulL_ok : VOp K cl vMulL rRep := by
  intro E0 ρ G st H x y v u Q Z R rx ry h
  unfold vMulL at h
  split at h
  · cases rx with
    | lst h1 q1 =>
      cases ry
      split at h
      · rename_i l n _ _ hn
        have hl := q1.length
        have hm : l.length * n.toNat ≤ 1000 * 1000 := Nat.mul_le_mul hn.2.2 (by omega)
        exact ⟨_, n, _, rfl, rfl, R.sub _ _ h1, by omega, by omega, by rw [← hl, sizeLine_eq]; omega, fun p hp => h.newP R hp (.lst upd_same ((RPs.rep q1 _).mono (Sub.new (R.gnone hp))))⟩
      · exact h.elim
  · exact h.elim
theorem se_mulL {a b : EM} {pa pb : Expr} {pos : Pos} (ha : SE K cl X Wx a pa) (hb : SE K cl X Wx b pb) : SE K cl X Wx (mBin vMulL a b) (.BinOp pa .Mult pb pos) := se_bin op_rep vMulL_ok ha hb
end
end Y
namespace Y
open PySem PySem.Spec PyProof.Rows L2
def callER (F : FM) (c : Nat) (oy : Option (Option W)) (x : W) (st : List Cell) : Res W := match oy with
  | some (some y) => if clsOf st x = some c then callF F [x, y] st else .no
  | _ => .no
def mCallE (c : Nat) (F : FM) (a : EM) (j : Nat) : EM := fun σ st => (a σ st).bind (callER F c σ[j]?)
def invRX (c : Nat) (F : FM) (w : W) (st1 : List Cell) : Res W := if clsOf st1 w = some c then callF F [w] st1 else .no
def mInvX (c : Nat) (F : FM) (a : EM) : EM := fun σ st => (a σ st).bind (invRX c F)
end Y
namespace Y
open PySem PySem.Spec PyProof.Rows L2
def kwRX (F : FM) (ix : List Nat) (n : Nat) (pre : List W) (ws : List W) (st1 : List Cell) : Res W := if ws.length = n then callF F (gI ix pre ws) st1 else .no
def mCallKwX (F : FM) (ix : List Nat) (n : Nat) (a : AM) : EM := fun σ st => (a σ st).bind (kwRX F ix n [])
def kwMX (c : Nat) (F : FM) (ix : List Nat) (n : Nat) (a : AM) (σ : Sg) (w : W) (st1 : List Cell) : Res W := if clsOf st1 w = some c then (a σ st1).bind (kwRX F ix n [w]) else .no
def mMethKwX (c : Nat) (F : FM) (ix : List Nat) (n : Nat) (o : EM) (a : AM) : EM := fun σ st => (o σ st).bind (kwMX c F ix n a σ)
end Y
namespace PySem
open PySem.W PyProof.Rows
set_option maxHeartbeats 1000000 in theorem meets_enumerate_new1 {v : Value} {o : Obj} {H : Heap → Prop} (B : Begins v o H) :
    Meets (Builtin.«enumerate.__new__» ⟨[.type "enumerate", v], []⟩) (fun _ R s => H s.heap ∧
      R (.ok (.ret (.ref (s.heap.push o).objs.size))) { s with heap := (s.heap.push o).push { cls := .type "enumerate", data := .fields #[.none, .bool false, .ref s.heap.objs.size, rawInt 0, .none, .none] } }) :=
  .of_wp fun prog w A R s h => by
    obtain ⟨hp, g, d, tk, os⟩ := s; obtain ⟨h1, h⟩ := h
    have hsub := sub_enumerate
    have q1 : ∀ {A' : Around} {E : Value → Shared → Prop} {Q : Value → Shared → Prop}, Q (.ref hp.objs.size) ⟨hp.push o, g, d, tk, os⟩ → wpAny (model prog w) A' (pyIter v) Q E ⟨hp, g, d, tk, os⟩ :=
      fun q => B.iter prog w _ _ ⟨hp, g, d, tk, os⟩ _ h1 q
    wp_walk using q1
    refine wpAny_stack_any fun st => wpAny_pure ?_
    split
    · rename_i c _ _ _ _ _
      cases (c == Value.type "enumerate")
      · wp_walk using q1
        exact ⟨_, rfl, h⟩
      · wp_walk using q1
        exact ⟨_, rfl, h⟩
    · wp_walk using q1
      exact ⟨_, rfl, h⟩
end PySem
namespace L2
open PySem PySem.Spec PyProof.Rows
def IteT (K : PySem.W.Frag) (a : Addr) : It :=
  ⟨fun i H => ∃ (xs : List V) (x : V), SqT K H a xs ∧ xs[i]? = some x, fun i H v H' => ∃ T x, v = .ref T ∧ H T = none ∧ H' = upd H T (.tup [.int (i : Nat), x]) ∧ ∀ xs, SqT K H a xs → xs[i]? = some x, fun i H => ∃ xs : List V, SqT K H a xs ∧ xs.length ≤ i⟩
theorem turn_enumT {P : Program} {w : World} {K : PySem.W.Frag} {elts : List Expr} {kk : Nat} {tpos : Pos} (a e it : Addr) :
    Turn P w K (.Tuple elts kk tpos) (IteT K a) [e, it] e (fun i h => (∃ old, IsEnum h e it ((i : Nat) : Int) old) ∧ h.IsTupleIter it a i ∧ e ≠ it ∧ a ≠ it ∧ a ≠ e) where
  mem := by simp
  obj := fun i h st b hb => by
    obtain ⟨⟨old, he⟩, ⟨o, ho, hc, hd⟩, _⟩ := st
    have e' : b = e ∨ b = it := by simpa using hb
    rcases e' with z | z
    · rw [z]; exact ⟨_, he, fun v q => nomatch q⟩
    · rw [z]; exact ⟨o, ho, fun v q => by rw [hd] at q; cases q⟩
  keep := fun i h h' st k => let ⟨⟨old, he⟩, hi, hne⟩ := st; ⟨⟨old, k e (by simp) _ he⟩, hi.at fun o q => k it (by simp) o q, hne⟩
  item := by
    intro X hP hw hK hc i pins s σ H E I hf st hg
    subst hP hw hK
    obtain ⟨⟨old, he⟩, hit, hne, hai, hae⟩ := st
    obtain ⟨xs, x, hq, hx⟩ := hg
    obtain ⟨its, rv, p, hz⟩ := I.tuple hq
    obtain ⟨u, hu, ru⟩ := rv.get hx
    have hel : e < s.heap.objs.size := Heap.lt_size he
    have hil : it < s.heap.objs.size := by obtain ⟨_, q, _⟩ := hit; exact Heap.lt_size q
    have hT : s.heap.IsTuple a its.toArray := p
    have hi : i < its.toArray.size := by
      rw [List.size_toArray]
      exact (List.getElem?_eq_some_iff.mp hu).1
    refine wpAny_pyNext_enum_itemD (Draws.tuple (A := X.A.in1) (I.ok.hd hc) it a hai its.toArray) he ⟨hit, hT⟩ hi hne (by simp; exact ⟨hne, Ne.symm hae⟩) fun y h' tk hy ho hst hT2 hsz hk => ?_
    have ey : y = u := by
      rw [List.getElem?_toArray] at hy
      exact Option.some.inj (hy.symm.trans hu)
    subst ey
    refine ⟨_, rfl, wpAny_letOwnedTupleGo_enum (s := { s with heap := h', toks := tk + 1 }) ho fun h'' he' sb => ?_⟩
    have hT3 : h''.get? s.heap.objs.size = some { cls := .type "tuple", data := .seq #[.int i tk, y] } := (sb.2 _ (Nat.ne_of_gt hel)).trans hT2
    have new : ObjOk X.prog X.w (upd H s.heap.objs.size (.tup [.int (i : Nat), x])) h'' s.heap.objs.size (.tup [.int (i : Nat), x]) :=
      ⟨by show 2 ≤ sizeLine; decide, [.int i tk, y], .cons ⟨_, rfl⟩ (.cons ru .nil), ⟨_, hT3, rfl, _, rfl⟩⟩
    have I1 : Inv X pins σ (upd H s.heap.objs.size (.tup [.int (i : Nat), x])) { s with heap := h'', toks := tk + 1 } :=
      I.turnedNew (ch := [e, it]) (fun b ob hb q => (sb.2 b (fun z => hb (by simp [z]))).trans (hk b ob (fun z => hb (by simp [z])) (fun z => hb (by simp [z])) q)) hf (Nat.le_refl _) new
    refine ⟨.ref s.heap.objs.size, _, I1, rfl, ⟨_, x, rfl, I.hok.fresh (Nat.le_refl _), rfl, fun ys hy => by rw [I.tuple_inj hy hq]; exact hx⟩, ⟨⟨y, ?_⟩, hst.1.at fun o q => (sb.2 it (Ne.symm hne)).trans q, hne, hai, hae⟩, fun b hb => ?_⟩
    · have e1 : ((i + 1 : Nat) : Int) = (i : Int) + 1 := by omega
      rw [e1]; exact he'
    · have hb' : b < s.heap.objs.size := by
        have e' : b = e ∨ b = it := by simpa using hb
        rcases e' with z | z
        · rw [z]; exact hel
        · rw [z]; exact hil
      rw [upd_ne (Nat.ne_of_lt hb')]
      exact (hf b hb).1
  done := by
    intro X hP hw hK hc i pins s σ H E I hf st hg
    subst hP hw hK
    obtain ⟨⟨old, he⟩, hit, hne, hai, hae⟩ := st
    obtain ⟨xs, hq, hx⟩ := hg
    obtain ⟨its, rv, p, hz⟩ := I.tuple hq
    obtain ⟨f0, f1, f2, f3, f4, f5⟩ := hf it (by simp)
    have hl := rv.length
    have hT : s.heap.IsTuple a its.toArray := p
    have hn : its.toArray[i]? = none := by rw [List.getElem?_toArray]; exact List.getElem?_eq_none (by omega)
    have D : Draws X.prog X.w X.A.in1 it [it, a] 0 (fun _ _ => False) (fun _ h => h.IsTupleIter it a i ∧ h.IsTuple a its.toArray) :=
      { live := fun _ _ st => let ⟨o, ho, _⟩ := st.1; ⟨o, ho⟩
        frame := fun _ _ _ st hk => ⟨st.1.at fun o e => hk it (by simp) o e, st.2.at fun o e => hk a (by simp) o e⟩
        item := fun i s Q E hi _ _ => absurd hi (Nat.not_lt_zero _)
        done := fun s Q E st hE => wpAny_nextOf_tuple_end (I.ok.hd hc) st.1 st.2 hn hE }
    exact wpAny_pyNext_enum_endD D he ⟨hit, hT⟩ fun h' eb => ⟨rfl, I.turned (t' := s.toks) (fun b o hb q => eb b o hb q) f0 f1 f3 f4 f5⟩
  self := fun A i s Q E st h => let ⟨⟨_, he⟩, _⟩ := st; wpAny_pyIter_enum he h
theorem call_enumerate_tuple {prog : Program} {w : World} {A : Around} {E : Value → Shared → Prop} {s : Shared} {l : Addr} {items : Array Value} {Q : Value → Shared → Prop} (hL : s.heap.IsTuple l items)
    (h : ∀ h', IsEnum h' (s.heap.objs.size + 1) s.heap.objs.size 0 .none → h'.IsTupleIter s.heap.objs.size l 0 → h'.objs.size = s.heap.objs.size + 2 →
      (∀ b o, s.heap.get? b = some o → h'.get? b = some o) → Q (.ref (s.heap.objs.size + 1)) { s with heap := h' }) :
    wpAny (model prog w) A (call (.type "enumerate") [.ref l]) Q E s := by
  refine callType_new F.called_enumerate (by decide) (F.typeCall_enumerate_1 _) (F.newCall_enumerate_1 _) (fun obj => F.args_object_init_2 obj _) F.entry_enumerate_new
    (meets_enumerate_new1 (begins_tuple l items)) ⟨hL, ?_⟩
  have hz : (s.heap.push { cls := .type "tuple_iterator", data := .fields #[.ref l, .int 0 0] }).objs.size = s.heap.objs.size + 1 := Heap.size_push ..
  show _ ∧ _
  rw [hz]
  have he : IsEnum ((s.heap.push { cls := .type "tuple_iterator", data := .fields #[.ref l, .int 0 0] }).push
      { cls := .type "enumerate", data := .fields #[.none, .bool false, .ref s.heap.objs.size, rawInt 0, .none, .none] }) (s.heap.objs.size + 1) s.heap.objs.size 0 .none := by
    have := Heap.get?_push_size (s.heap.push { cls := .type "tuple_iterator", data := .fields #[.ref l, .int 0 0] })
      (o := { cls := .type "enumerate", data := .fields #[.none, .bool false, .ref s.heap.objs.size, rawInt 0, .none, .none] }) rfl
    rw [hz] at this; exact this
  refine ⟨⟨_, he, rfl⟩, h _ he ⟨_, Heap.get?_push_of_some _ (Heap.get?_push_size _ rfl), rfl, rfl⟩ (by rw [Heap.size_push, hz]) fun b o x => Heap.get?_push_of_some _ (Heap.get?_push_of_some _ x)⟩
end L2
namespace L2
open PySem PySem.Spec PyProof.Rows
def iEnumA (K : PySem.W.Frag) (ta : TA) : TI := fun σ H R => ta σ H fun vs H1 => (∃ a xs, vs = [.ref a] ∧ SqL K H1 a xs ∧ R (Ite K a) H1) ∨ (∃ a xs, vs = [.ref a] ∧ SqT K H1 a xs ∧ R (IteT K a) H1)
theorem pi_enumA {X : Cx} {e : Expr} {ta : TA} {p pos tpos : Pos} {elts : List Expr} {kk : Nat} (hg : Gl X "enumerate") (hm : X.mg "enumerate" = none) (ha : PA X [e] ta) (hs : starEach [e] X.env = [(false, eval e X.env)] := by rfl) :
    PI X (.Tuple elts kk tpos) (.Call (.Name "enumerate" p) [e] [] pos) (iEnumA X.K ta) := by
  refine ⟨fun pins s σ H R I h => ?_⟩
  refine Call_ (ld_blt I hg hm boot_enumerate (PyProof.Rows.callWith_type1 (thn (ha.run pos pins s σ H _ I h) fun us s1 ⟨vs, H1, I1, r1, q1⟩ => ?_) hs rfl))
  have fp : ∀ b ∈ [s1.heap.objs.size + 1, s1.heap.objs.size], FpOk X pins H1 b := fun b hb => by
    have hle : s1.heap.objs.size ≤ b := by
      simp only [List.mem_cons, List.not_mem_nil, or_false] at hb
      rcases hb with rfl | rfl
      · exact Nat.le_add_right _ _
      · exact Nat.le_refl _
    exact I1.fpOk hle (I1.hok.fresh hle)
  rcases q1 with ⟨a, xs, rfl, hq, q⟩ | ⟨a, xs, rfl, hq, q⟩
  · obtain ⟨its, rv, p', hz⟩ := I1.list hq
    rw [Vals.ref1 r1]
    refine call_enumerate_list p'.isList fun h' he hit hsz hk => wpAny_pyIter_enum he ?_
    exact ⟨s1.heap.objs.size + 1, _, _, _, H1, rfl, I1.kept (t' := s1.toks) hk, turn_enum a (s1.heap.objs.size + 1) s1.heap.objs.size, ⟨⟨.none, he⟩, hit, Nat.succ_ne_self _⟩, fp, q⟩
  · obtain ⟨its, rv, p', hz⟩ := I1.tuple hq
    rw [Vals.ref1 r1]
    have ha : a < s1.heap.objs.size := by obtain ⟨o, ho, _⟩ := p'; exact Heap.lt_size ho
    refine call_enumerate_tuple (show s1.heap.IsTuple a its.toArray from p') fun h' he hit hsz hk => wpAny_pyIter_enum he ?_
    exact ⟨s1.heap.objs.size + 1, _, _, _, H1, rfl, I1.kept (t' := s1.toks) hk, turn_enumT a (s1.heap.objs.size + 1) s1.heap.objs.size, ⟨⟨.none, he⟩, hit, Nat.succ_ne_self _, Nat.ne_of_lt ha, Nat.ne_of_lt (Nat.lt_succ_of_lt ha)⟩, fp, q⟩
end L2
namespace Y
open PySem PySem.Spec PyProof.Rows L2
section
variable {K : PySem.W.Frag} {cl : Cls} {X : Cx} {Wx : WX} {E0 : En} {ρ : List Addr} {G : Hp} {σ : Sg} {st : List Cell} {τ : L2.St} {H : Hp}
def vEnmA (st : List Cell) : W → Option Src
  | .p (.tup l) => some (srcL (enmL 0 l))
  | w => vEnm st w
def mEnmA (m : EM) : IM := fun σ st => (m σ st).bind fun w st1 => match vEnmA st1 w with
  | some s => .ok s st1
  | none => .no
theorem wok_enmT {a : Addr} {l : List P} (r : RP K cl G (.tup l) (.ref a)) : WOk K cl ρ G (IteT K a) (srcL (enmL 0 l)) := by
  intro E0 ρ' G' st H i p s R
  cases r with
  | tup h q =>
    rename_i vs
    have hq : SqT K H a vs := R.sub.sqT (s.sqT h)
    have hl := q.length
    show match some (enmL 0 l)[i]? with | none => True | some none => _ | some (some w) => _
    rw [enmL_get]
    cases e : l[i]? with
    | none => exact ⟨vs, hq, by rw [← hl]; exact List.getElem?_eq_none_iff.mp e⟩
    | some x =>
      obtain ⟨v, ev, rv⟩ := q.get e
      refine ⟨⟨vs, v, hq, ev⟩, fun y H' yl => ?_⟩
      obtain ⟨T, v', rfl, hT, rfl, yl⟩ := yl
      have : v' = v := Option.some.inj ((yl vs hq).symm.trans ev)
      subst this
      have sn := Sub.new (o := .tup [.int (i : Nat), v']) (R.gnone hT)
      refine ⟨_, sn, R.froze hT, ?_⟩
      rw [Nat.zero_add]
      exact RP.tup (.inl (.inl upd_same)) (.cons (.int _) (.cons (rv.mono (s.trans sn)) .nil))
theorem si_enmA {a : EM} {e : Expr} {p pos tpos : Pos} {elts : List Expr} {kk : Nat} (g : GX K X) (hg : Gl X "enumerate") (hm : X.mg "enumerate" = none) (ha : SE K cl X Wx a e) (hs : starEach [e] X.env = (false, eval e X.env) :: starEach [] X.env := by rfl) (h3 : starEach [] X.env = [] := by rfl) :
    SI K cl X Wx (.Tuple elts kk tpos) (mEnmA a) (.Call (.Name "enumerate" p) [e] [] pos) := by
  obtain ⟨hK, _⟩ := g
  subst hK
  refine ⟨fun E0 ρ G σ st τ H R Rl S q => TIc.of (pi_enumA hg hm (T.pa1 hs) (by rw [hs, h3])) ?_⟩
  refine ha.run E0 ρ G σ st τ H _ Rl S (Aft.seq q fun w st1 ρ1 G1 H1 v e1 p1 s1 R1 u1 h1 => ?_)
  cases w with
  | p x =>
    cases x with
    | lst l =>
      cases u1 with
      | lst hh qq => exact .inl ⟨_, _, rfl, .inl (.inl (R1.sub _ _ hh)), h1 ρ1 G1 H1 _ (List.prefix_refl _) (Sub.refl _) R1 (wok_enm (.lst hh qq))⟩
    | tup l =>
      cases u1 with
      | tup hh qq => exact .inr ⟨_, _, rfl, R1.sub.sqT hh, h1 ρ1 G1 H1 _ (List.prefix_refl _) (Sub.refl _) R1 (wok_enmT (.tup hh qq))⟩
    | _ => exact h1.elim
  | r j =>
    obtain ⟨b, ha, rfl⟩ := u1
    simp only [vEnmA, vEnm] at h1
    split at h1
    · rename_i sr er
      split at er
      · rename_i l el
        cases er
        obtain ⟨b, hb, ⟨vs, h2, h3⟩, _⟩ := R1.at el
        cases Option.some.inj (ha.symm.trans hb)
        exact .inl ⟨_, vs, rfl, .inl (.inl h2), h1 ρ1 G1 H1 _ (List.prefix_refl _) (Sub.refl _) R1 (wok_enmC ha)⟩
      · cases er
    · exact h1.elim
end
end Y
namespace Y
open PySem PySem.Spec PyProof.Rows L2
section
variable {K : PySem.W.Frag} {cl : Cls} {X : Cx} {Wx : WX} {E0 : En} {ρ ρ' : List Addr} {G G' : Hp} {σ : Sg} {τ : L2.St} {st : List Cell} {H : Hp} {D : Ends}
variable {f : Addr} {fd : FuncData} {ps : List Str} {F : FM} {a : AM} {k : Nat} {x m : Str} {p pos apos : Pos} {e : Expr} {es : List Expr}
def isCls (i c : Nat) (σ : Sg) : Bool := match σ[i]? with
  | some (some (.p (.cls d))) => d == c
  | _ => false
def mMakeL (i c n : Nat) (F : FM) (a : AM) : EM := fun σ st => if isCls i c σ = true then (a σ st).bind fun ws st1 => makeX c n F ws st1 else .no
def mCMeth (c : Nat) (F : FM) (dfl : List P) (a : AM) : EM := fun σ st => (a σ st).bind fun ws st1 => callF F (.p (.cls c) :: (ws ++ dfl.map W.p)) st1
end
end Y
namespace Y
open PySem PySem.Spec PyProof.Rows L2
section
variable {K : PySem.W.Frag} {cl : Cls}
def vExtend (w : W) (ws : List W) (st : List Cell) : Res W := match w, ws with
  | .r i, [.p (.lst m)] => match st[i]? with
    | some (.lst l) => if l.length + m.length ≤ LIM then .ok (.p .non) (st.set i (.lst (l ++ m.map W.p))) else .no
    | _ => .no
  | .r i, [.r j] => match st[i]?, st[j]? with
    | some (.lst l), some (.lst m) => if l.length + m.length ≤ LIM then .ok (.p .non) (st.set i (.lst (l ++ m))) else .no
    | _, _ => .no
  | _, _ => .no
end
end Y
namespace Y
open PySem PySem.Spec PyProof.Rows L2
section
variable {K : PySem.W.Frag} {cl : Cls} {X : Cx} {Wx : WX} {E0 : En} {ρ ρ' : List Addr} {G G' : Hp} {σ : Sg} {τ : L2.St} {st : List Cell} {H : Hp} {D : Ends}
variable {f : Addr} {fd : FuncData} {ps ks : List Str} {F : FM} {a b : AM} {k n np : Nat} {ix : List Nat} {x m : Str} {p pos apos : Pos} {e : Expr} {es : List Expr} {kws : List Keyword}
def mCMethN (c : Nat) (F : FM) (ix : List Nat) (np n : Nat) (a b : AM) : EM := fun σ st => (a σ st).bind fun us st1 => (b σ st1).bind fun ws st2 => if us.length = np ∧ ws.length = n then callF F (gI ix (.p (.cls c) :: us) ws) st2 else .no
def mCMethN0 (c : Nat) (F : FM) (ix : List Nat) (n : Nat) (b : AM) : EM := fun σ st => (b σ st).bind fun ws st2 => if ws.length = n then callF F (gI ix [.p (.cls c)] ws) st2 else .no
end
end Y
namespace Y
open PySem PySem.Spec PyProof.Rows L2
def kwdAt (K : PySem.W.Frag) (a : Addr) (kws : List (Str × V)) : Bool := match K.lookup a with
  | some ⟨_, _, .func fd, _⟩ => He.kwdB K fd.kwdefaults kws
  | _ => false
section
variable {K : PySem.W.Frag} {x qual : Str} {params : Arguments} {body : List Stmt} {scope : Scope} {f : Addr} {fd : FuncData} {ps ks : List Str} {dvs : List V} {kws kws' : List (Str × V)}
theorem FunD.kwd (F : FunD K x qual params body scope dvs kws' f fd) (h : kwdAt K f kws = true) : FunD K x qual params body scope dvs kws f fd := by
  obtain ⟨oc, od, dV, kV, doc, pm, an, cdv, ct, osl, e, lk, hcd, hD, hK⟩ := F.ex
  subst e
  unfold kwdAt at h
  rw [lk] at h
  exact ⟨⟨oc, od, dV, kV, doc, pm, an, cdv, ct, osl, rfl, lk, hcd, hD, He.kwdB_ok h⟩, F.kp⟩
end
section
variable {K : PySem.W.Frag} {cl : Cls} {X : Cx} {Wx : WX} {E0 : En} {ρ : List Addr} {G : Hp} {σ : Sg} {st : List Cell} {τ : L2.St} {H : Hp}
def vSIndex (w : W) (ws : List W) (st : List Cell) : Res W := match w, ws with
  | .p (.str a), [.p (.str b)] => if 0 ≤ Txt.find a b then .ok (.p (.int (Txt.find a b))) st else .no
  | _, _ => .no
end
end Y
namespace Y
open PySem PySem.Spec PyProof.Rows L2
section
variable {K : PySem.W.Frag} {cl : Cls} {X : Cx} {Wx : WX} {E0 : En} {ρ ρ' : List Addr} {G G' : Hp} {σ : Sg} {τ : L2.St} {st : List Cell} {H H' : Hp} {D : Ends}
def frzDR (w : W) (st : List Cell) : Res W := match w with
  | .p x => .ok (.p x) st
  | .r i => match st[i]? with
    | some (.dk ks l) => match pures l with
      | some m => .ok (.p (.fd ks m)) (st.set i .dead)
      | none => .no
    | _ => .no
def mFrzD (a : EM) : EM := fun σ st => (a σ st).bind frzDR
def keyD : Key → P
  | .inl i => .int i
  | .inr z => .str z
def vSrcD : W → Option Src
  | .p (.fd ks _) => some (srcL (ks.map fun k => .p (keyD k)))
  | _ => none
def mSrcD (m : EM) : IM := fun σ st => (m σ st).bind fun w st1 => match vSrcD w with
  | some s => .ok s st1
  | none => .no
def dgetD (w x : W) (st : List Cell) : Res W := match w, x with
  | .p (.fd ks l), .p y => match (keyP y).bind fun k => dkGet ks l k with
    | some z => .ok (.p z) st
    | none => .no
  | _, _ => .no
def mDGetD (o a : EM) : EM := fun σ st => (o σ st).bind fun w st1 => (a σ st1).bind fun x st2 => dgetD w x st2
end
end Y
namespace Y
open PySem PySem.Spec PyProof.Rows L2
section
variable {K : PySem.W.Frag} {cl : Cls} {X : Cx} {Wx : WX} {E0 : En} {ρ : List Addr} {G : Hp} {σ : Sg} {st : List Cell} {τ : L2.St} {H : Hp}
def sChr (c : Nat) : P := .str ⟨#[c]⟩
def mEnmS (m : EM) : IM := fun σ st => (m σ st).bind fun w st1 => match w with
  | .p (.str z) => .ok (srcL (enmL 0 (z.cps.toList.map sChr))) st1
  | _ => .no
end
end Y
namespace Y
open PySem PySem.Spec PyProof.Rows L2
section
variable {K : PySem.W.Frag} {cl : Cls} {X : Cx} {Wx : WX} {E0 : En} {ρ : List Addr} {G : Hp} {σ : Sg} {st : List Cell} {τ : L2.St} {H : Hp}
def vIsB (neg : Bool) (x y : W) (st : List Cell) : Res W := match x, y with
  | .p (.bl m), .p (.bl n) => .ok (.p (.bl (if neg = true then !decide (m = n) else decide (m = n)))) st
  | _, _ => .no
variable {a b : EM} {pa pb : Expr} {pos : Pos}
end
end Y
namespace Y
open PySem PySem.Spec PyProof.Rows L2
def prsP : List P → Option (List (NestedKey × P × P))
  | [] => some []
  | .tup [x, y] :: l => match nkT x, prsP l with
    | some k, some ps => some ((k, x, y) :: ps)
    | _, _ => none
  | _ => none
def vDictN (ws : List W) (st : List Cell) : Res W := match ws with
  | [w] => match listOf st w with
    | some l => match prsP l with
      | some pp => .ok (.p (.fn ((stAll [] pp).map (·.2.1)) ((stAll [] pp).map (·.2.2)))) st
      | none => .no
    | none => .no
  | _ => .no
def inN (ks : List P) (k : NestedKey) : Bool := ks.any fun x => decide (nkT x = some k)
end Y
namespace Y
open PySem PySem.Spec PyProof.Rows L2
section
variable {α β γ δ : Type}
def z3G : List NestedKey → List α → List β → List (NestedKey × α × β)
  | k :: ks, a :: as, v :: vs => (k, a, v) :: z3G ks as vs
  | _, _, _ => []
end
def zP (ks : List P) (l : List W) : List (NestedKey × P × W) := z3G (ks.filterMap nkT) ks l
def dnPut (ks : List P) (l : List W) (k : NestedKey) (z : P) (w : W) : List P × List W := ((stG (zP ks l) k z w).map (·.2.1), (stG (zP ks l) k z w).map (·.2.2))
def mDispN (mk mv : EM) : EM := fun σ st => (mk σ st).nox.bind fun x st1 => (mv σ st1).nox.bind fun y st2 => match x with
  | .p z => match nkT z with
    | some _ => .ok (.r st2.length) (st2 ++ [.dn [z] [y]])
    | none => .no
  | _ => .no
def inCK (neg : Bool) (c : Option Cell) (z : P) (st : List Cell) : Res W := match c, nkT z with
  | some (.dn ks l), some k => if ks.length = l.length then .ok (.p (.bl (inN ks k != neg))) st else .no
  | _, _ => .no
def vInC (neg : Bool) (x y : W) (st : List Cell) : Res W := match x, y with
  | .p z, .r i => inCK neg st[i]? z st
  | _, _ => .no
def putCK (i : Nat) (σ : Sg) (c : Option Cell) (z : P) (x : W) (st : List Cell) : SR := match c, nkT z with
  | some (.dn ks l), some k => if ks.length = l.length ∧ ks.length < 1000000 then .ok .nx σ (st.set i (.dn (dnPut ks l k z x).1 (dnPut ks l k z x).2)) else .no
  | _, _ => .no
def sPutN (o ix m : EM) : SMm := fun σ st => (m σ st).to σ fun x st1 => (o σ st1).to σ fun w st2 => (ix σ st2).to σ fun k st3 => match w, k with
  | .r i, .p z => putCK i σ st3[i]? z x st3
  | _, _ => .no
end Y
namespace Y
open PySem PySem.Spec PyProof.Rows L2 GenW
def Pjk.pj : Pjk → P → Option P
  | .id, x => some x
  | .fst, .tup [a, _] => some a
  | .fst, _ => none
def gNx : GMn := fun σ st ys => .ok .nx σ st ys
def gPl (m : SMm) : GMn := fun σ st ys => (m σ st).gr ys
def gSeq (a b : GMn) : GMn := fun σ st ys => (a σ st ys).then b
def gYlK (pk : Pjk) (σ : Sg) (ys : List P) (w : W) (st : List Cell) : GR := match w with
  | .p x => match pk.pj x with
    | some z => .ok .nx σ st (ys ++ [z])
    | none => .no
  | _ => .no
def gYl (pk : Pjk) (e : EM) : GMn := fun σ st ys => if ys.length < LIM then (e σ st).gto σ (gYlK pk σ ys) else .no
def gWhileF (c : TM) (b : GMn) : Nat → GMn
  | 0, _, _, _ => .no
  | n + 1, σ, st, ys => (c σ st).gto σ fun k st1 => if k = true then (match b σ st1 ys with
    | .ok .nx σ2 st2 ys2 => gWhileF c b n σ2 st2 ys2
    | .ok .ct σ2 st2 ys2 => gWhileF c b n σ2 st2 ys2
    | .ok .bk σ2 st2 ys2 => .ok .nx σ2 st2 ys2
    | r => r) else .ok .nx σ st1 ys
def gWhile (n : Nat) (c : TM) (b : GMn) : GMn := fun σ st ys => gWhileF c b n σ st ys
end Y
namespace Y
open PySem PySem.Spec PyProof.Rows L2 GenW
section
variable {K : PySem.W.Frag} {cl : Cls} {X : Cx} {Wx : WX} {k : Nat} {f : Addr} {ps : List Str} {F : Pjk → FM} {x m nm : Str} {p p2 pos pos2 apos : Pos} {e : Expr} {es : List Expr} {pk : Pjk} {elt tg : Expr} {sc : Scope} {a : AM} {o : EM} {eo : Expr}
def mGLs (l : List Nat) (F : FM) (a : AM) : EM := fun σ st => (a σ st).bind fun ws st1 => lsE l (callF F ws st1)
def mGLsM (c : Nat) (l : List Nat) (F : FM) (o : EM) (a : AM) : EM := fun σ st => (o σ st).bind fun w st1 => if clsOf st1 w = some c then (a σ st1).bind fun ws st2 => lsE l (callF F (w :: ws) st2) else .no
end
end Y
namespace Y
open PySem PySem.Spec PyProof.Rows L2
def dynC (t : List (Nat × EM)) (σ : Sg) (st : List Cell) (c : Option Nat) : Res W := match c with
  | some c => (match t.lookup c with
    | some m => m σ st
    | none => .no)
  | none => .no
def dynK (t : List (Nat × EM)) (σ : Sg) (st : List Cell) (r : Res W) : Res W := match r with
  | .ok w st1 => dynC t σ st (clsOf st1 w)
  | .exc _ _ => (match t with
    | (_, m) :: _ => m σ st
    | [] => .no)
  | .no => .no
def mDyn (o : EM) (t : List (Nat × EM)) : EM := fun σ st => dynK t σ st (o σ st)
section
variable {K : PySem.W.Frag} {cl : Cls} {X : Cx} {Wx : WX} {e eo : Expr} {o : EM} {t : List (Nat × EM)}
def mCon (c : Nat) (x : P) (o : EM) : EM := fun σ st => (o σ st).bind fun w st1 => if clsOf st1 w = some c then .ok (.p x) st1 else .no
end
end Y
namespace Y
open PySem PySem.Spec PyProof.Rows L2 PySem.W
def isTupD : PyData → Bool
  | .tuple (_ :: _) => true
  | _ => false
def notTupD : PyData → Bool
  | .none => false
  | .tuple _ => false
  | _ => true
def srtOkD (ds : List PyData) : Bool := ds.all (fun d => ds.all fun e => alike d e) && ((ds.all isTupD || ds.all notTupD) && ds.all fun d => decide (d.depth ≤ 8))
def encD (x : P) : PyData := (toD x).getD .none
def srtOk (l : List P) : Bool := match toDs l with
  | some ds => srtOkD ds
  | none => false
def srtD (l : List P) : List P := l.mergeSort (dataLe false encD)
end Y
namespace Y
open PySem PySem.Spec PyProof.Rows L2 PySem.W
section
variable {K : PySem.W.Frag} {cl : Cls} {X : Cx} {Wx : WX} {E0 : En} {ρ ρ' : List Addr} {G G' : Hp} {σ : Sg} {τ : L2.St} {st : List Cell} {H : Hp} {D : Ends}
def zipT (l m : List P) : List P := (l.zip m).map fun q => .tup [q.1, q.2]
def mSortZ (a b : EM) : EM := fun σ st => (a σ st).bind fun x st1 => (b σ st1).bind fun y st2 => match zItems x, zItems y with
  | some l, some m => if (zipT l m).length ≤ LIM ∧ srtOk (zipT l m) = true then .ok (.p (.lst (srtD (zipT l m)))) st2 else .no
  | _, _ => .no
end
end Y
namespace NS
open PySem PySem.Spec PyProof.Rows L2
section
variable {P : Program} {w : World} {A : Around} {E : Value → Shared → Prop} {s : Shared}
variable {a : Addr} {L : Lk} {es : Array (Int × Value)} {ep : Nat} {t : SetTable}
def Added (k : NestedKey) (x : Addr) (L L' : Lk) : Prop := (k ∈ L.map Prod.fst → L' = L) ∧ (k ∉ L.map Prod.fst → L'.Perm ((k, x) :: L))
end
end NS
namespace NS
open PySem PySem.Spec PyProof.Rows L2
theorem Once.add {ks L L' : Lk} {k : NestedKey} {x : Addr} (o : Once ks L) (h : Added k x L L') : Once (ks ++ [(k, x)]) L' := by
  rcases Classical.em (k ∈ L.map Prod.fst) with c | c
  · rw [h.1 c]
    refine ⟨fun q hq => List.mem_append_left _ (o.sub q hq), fun q hq => ?_, by rw [List.length_append]; have := o.len; omega⟩
    rcases List.mem_append.mp hq with hq | hq
    · exact o.all q hq
    · rw [List.mem_singleton.mp hq]; exact c
  · have p := h.2 c
    refine ⟨fun q hq => ?_, fun q hq => (p.map Prod.fst).mem_iff.mpr ?_, by rw [p.length_eq, List.length_append, List.length_cons]; have := o.len; simp; omega⟩
    · rcases List.mem_cons.mp (p.mem_iff.mp hq) with e | hq
      · rw [e]; exact List.mem_append_right _ (List.mem_singleton.mpr rfl)
      · exact List.mem_append_left _ (o.sub q hq)
    · rw [List.map_cons]
      rcases List.mem_append.mp hq with hq | hq
      · exact List.mem_cons_of_mem _ (o.all q hq)
      · rw [List.mem_singleton.mp hq]; exact List.mem_cons_self
end NS
namespace NS
open PySem PySem.Spec PyProof.Rows L2 PySem.W Y
def nkOf (x : P) : NestedKey := (nkT x).getD .none
def ddK : List P → List P
  | [] => []
  | x :: l => if (ddK l).any (fun y => decide (nkOf y = nkOf x)) = true then ddK l else x :: ddK l
def setOk (l : List P) : Bool := l.all (fun x => (nkT x).isSome) && decide (l.length < 64)
end NS
namespace Y
open PySem PySem.Spec PyProof.Rows L2 PySem.W NS
def vSrtSet (w : W) (st : List Cell) : Res W := match listOf st w with
  | some l => if setOk l = true ∧ srtOk l = true then .ok (.p (.lst (srtD (ddK l)))) st else .no
  | none => .no
def mSrtSet (a : EM) : EM := fun σ st => (a σ st).bind vSrtSet
def vLenSet (w : W) (st : List Cell) : Res W := match listOf st w with
  | some l => if setOk l = true then .ok (.p (.int ((ddK l).length : Nat))) st else .no
  | none => .no
def mLenSet (a : EM) : EM := fun σ st => (a σ st).bind vLenSet
end Y
namespace Y
open PySem PySem.Spec PyProof.Rows L2
section
variable {K : PySem.W.Frag} {cl : Cls} {X : Cx} {Wx : WX}
def augSet (σ : Sg) (i : Nat) (n : Int) (z : W) (st : List Cell) : SR := match st[i]? with
  | some (.lst l) => match L2.ixN l.length n with
    | some j => .ok .nx σ (st.set i (.lst (l.set j z)))
    | none => .no
  | _ => .no
def augGet (i : Nat) (n : Int) (st : List Cell) : Option W := match st[i]? with
  | some (.lst l) => L2.atI l n
  | _ => none
def sAugIx (f : W → W → List Cell → Res W) (o ix m : EM) : SMm := fun σ st => (o σ st).to σ fun w st1 => (ix σ st1).to σ fun k st2 => match w, k with
  | .r i, .p (.int n) => match augGet i n st2 with
    | some x => (m σ st2).to σ fun y st4 => match f x y st4 with
      | .ok z st5 => augSet σ i n z st5
      | _ => .no
    | none => .no
  | _, _ => .no
end
end Y
namespace Y
open PySem PySem.Spec PyProof.Rows L2
section
variable {K : PySem.W.Frag} {cl : Cls} {X : Cx} {Wx : WX}
def vMulC (x y : W) (st : List Cell) : Res W := match x, y with
  | .p (.lst l), .p (.int n) => if 0 ≤ n ∧ n ≤ 1000 ∧ l.length ≤ 1000 then .ok (.r st.length) (st ++ [.lst ((List.replicate n.toNat l).flatten.map .p)]) else .no
  | _, _ => .no
end
end Y
namespace Y
open PySem PySem.Spec PyProof.Rows L2 GenW GT
def srcLz (f : Nat → P → P) (r : LR) : Src := ⟨fun _ i => match r.src.1[i]? with
  | some z => some (some (.p (f i z)))
  | none => if r.src.2 = true then some none else none, r.src.1.length⟩
end Y
namespace Y
open PySem PySem.Spec PyProof.Rows L2 GenW GT
def lzK (f : Nat → P → P) (F : List P → LR) (ws : List W) (st : List Cell) : Res Src := match pures ws with
  | some l => .ok (srcLz f (F l)) st
  | none => .no
end Y
namespace Y
open PySem PySem.Spec PyProof.Rows L2
section
variable {K : PySem.W.Frag} {cl : Cls} {X : Cx} {Wx : WX} {E0 : En} {ρ ρ' : List Addr} {G G' : Hp} {σ : Sg} {τ : L2.St} {st : List Cell} {H : Hp} {D : Ends}
def stArgs (n : Nat) (ws : List W) : Option (List W) := if n ≤ ws.length then match pures (ws.drop n) with
  | some l => if l.length ≤ LIM then some (ws.take n ++ [.p (.tup l)]) else none
  | none => none
  else none
def makeS (c nf n : Nat) (F : FM) (ws : List W) (st : List Cell) : Res W := match stArgs n ws with
  | some xs => makeX c nf F xs st
  | none => .no
def mMakeS (c nf n : Nat) (F : FM) (a : AM) : EM := fun σ st => (a σ st).bind fun ws st1 => makeS c nf n F ws st1
theorem stArgs_ok {n : Nat} {ws xs : List W} {vs : List V} (r : RWs K cl ρ G ws vs) (e : stArgs n ws = some xs) : (vs.take n).length = n ∧ (vs.drop n).length ≤ sizeLine ∧ ∃ l, xs = ws.take n ++ [.p (.tup l)] ∧ RPs K cl G l (vs.drop n) := by
  unfold stArgs at e
  split at e
  case isFalse => cases e
  rename_i hn
  split at e
  case h_2 => cases e
  rename_i l el
  split at e
  case isFalse => cases e
  rename_i hl
  cases e
  have q := (r.drop n).pures el
  exact ⟨by rw [List.length_take, ← r.length]; omega, by rw [← q.length]; exact lim_le hl, l, rfl, q⟩
theorem makeS_ok {c nf n : Nat} {C : Addr} {ns : List Str} {ws : List W} {vs : List V} {Q : VK} {Z : ZX} {F : FM} (hC : cl[c]? = some (C, ns)) (hn : ns.length = nf) (R : (bs K cl E0).Rel ρ G st H) (r : RWs K cl ρ G ws vs) (h : Aft (bs K cl E0) (bs K cl E0).RW ρ G (makeS c nf n F ws st) Q Z)
    {x dx : Addr} (hx : H x = none) (hdx : H dx = none) (hne : dx ≠ x) : spS K cl (n + 1) F (.ref x :: vs) (upd (upd H dx (.own x)) x (.ins C dx [])) (fun v H2 => v = .non ∧ Q (.ref x) H2) Z := by
  unfold makeS at h
  split at h
  case h_2 => exact h.elim
  rename_i xs ex
  obtain ⟨h1, h2, l, rfl, q⟩ := stArgs_ok r ex
  refine ⟨.ref x :: vs.take n, vs.drop n, by rw [List.cons_append, List.take_append_drop], by rw [List.length_cons, h1], h2, fun p hp => ?_⟩
  have px : p ≠ x := fun e => by rw [e, upd_same] at hp; cases hp
  have pdx : p ≠ dx := fun e => by rw [e, upd_ne hne, upd_same] at hp; cases hp
  have hpH : H p = none := by rw [upd_ne px, upd_ne pdx] at hp; exact hp
  have gn := R.gnone hpH
  have e : upd (upd (upd H dx (.own x)) x (.ins C dx [])) p (.tup (vs.drop n)) = upd (upd (upd H p (.tup (vs.drop n))) dx (.own x)) x (.ins C dx []) := by
    funext a
    by_cases a1 : a = p
    · subst a1; rw [upd_same, upd_ne px, upd_ne pdx, upd_same]
    · rw [upd_ne a1]
      by_cases a2 : a = x
      · subst a2; rw [upd_same, upd_same]
      · rw [upd_ne a2, upd_ne a2]
        by_cases a3 : a = dx
        · subst a3; rw [upd_same, upd_same]
        · rw [upd_ne a3, upd_ne a3, upd_ne a1]
  rw [e]
  have sb : Sub G (upd G p (.tup (vs.drop n))) := Sub.new gn
  show spF K cl F (.ref x :: (vs.take n ++ [V.ref p])) _ _ _
  refine makeX_ok hC hn (R.froze hpH) ((RWs.mono (List.prefix_refl _) sb (r.take n)).append (.cons ?_ .nil)) (Aft.mono (List.prefix_refl _) sb h) (by rw [upd_ne (Ne.symm px)]; exact hx) (by rw [upd_ne (Ne.symm pdx)]; exact hdx) hne
  exact RP.tup (.inl (.inl upd_same)) (RPs.mono sb q)
end
section
variable {K : PySem.W.Frag} {cl : Cls} {X : Cx} {Wx : WX} {k : Nat} {f : Addr} {F : FM} {x : Str} {p pos : Pos} {e : Expr} {es : List Expr} {a : AM}
theorem makeSK {C : Addr} {ns : List Str} {c nf n : Nat} (h : Sk X.prog X.w X.K X.mg X.base cl k f (n + 1) F) (g : GX K X) (tk : Takes X Wx) (wi : WI Wx) (hr : Room (k + 1) X.A) (hC : cl[c]? = some (C, ns)) (hn : ns.length = nf) (M : Mk K C f) (hg : Gl X x) (hm : X.mg x = some (.ref C))
    (ha : SA K cl X Wx a (e :: es)) (hdb : (x == ("__debug__" : Str)) = false) (he : starEach (e :: es) X.env = (false, eval e X.env) :: starEach es X.env := by rfl) (hpl : (backTo pos (starEach es X.env)).any (·.1) = false := by rfl) :
    SE K cl X Wx (mMakeS c nf n F a) (.Call (.Name x p) (e :: es) [] pos) := by
  obtain ⟨hK, _⟩ := g
  subst hK
  refine ⟨fun E0 ρ G σ st τ H Q R S h' => T.of (StX.pe_makeR (E := fun c d H' => Wx c d τ H') M h.run hr hg hm (passes_call tk fun c d σ H q => wi c d τ σ H q) TA'.pa hdb he hpl) ?_⟩
  refine ha.run E0 ρ G σ st τ H _ R S (Aft.seq h' fun ws st1 ρ1 G1 H1 vs e1 p1 s1 R1 u1 h1 => ?_)
  exact fun y dx hy hdx hne => makeS_ok hC hn R1 u1 h1 hy hdx hne
end
end Y
namespace Y
open PySem PySem.Spec PyProof.Rows L2
def dnGet : List P → List W → NestedKey → Option W
  | x :: ks, y :: l, k => if nkT x = some k then some y else dnGet ks l k
  | _, _, _ => none
section
variable {K : PySem.W.Frag} {cl : Cls} {X : Cx} {Wx : WX} {E0 : En} {ρ : List Addr} {G : Hp} {σ : Sg} {st : List Cell} {τ : L2.St} {H : Hp} {w : World}
def ixCK (c : Option Cell) (z : P) (st : List Cell) : Res W := match c, nkT z with
  | some (.dn ks l), some k => if ks.length = l.length then match dnGet ks l k with
    | some v => .ok v st
    | none => .no
    else .no
  | _, _ => .no
def vIxC (x y : W) (st : List Cell) : Res W := match x, y with
  | .r i, .p z => ixCK st[i]? z st
  | _, _ => .no
variable {a b : EM} {pa pb : Expr} {pos : Pos}
end
theorem bs2 {fd : FuncData} {p1 p2 pv : Str} (h0 : ∀ a b, bindArgs fd ⟨[a, b], []⟩ = (newTuple [] >>= fun t => pure [(p1, a), (p2, b), (pv, t)])) (h1 : ∀ a b r rs, bindArgs fd ⟨a :: b :: r :: rs, []⟩ = (newTuple (r :: rs) >>= fun t => pure [(p1, a), (p2, b), (pv, t)])) :
    ∀ us rest : List Value, us.length = [p1, p2].length → bindArgs fd ⟨us ++ rest, []⟩ = (newTuple rest >>= fun t => pure ([p1, p2].zip us ++ [(pv, t)])) := StX.bind_star2 (B := fun us => bindArgs fd ⟨us, []⟩) h0 h1
end Y
namespace Y
open PySem PySem.Spec PyProof.Rows L2
def putLK (ts : List Tg) (σ : Sg) (w : W) (st : List Cell) : SR := match w with
  | .p (.lst l) => match Tg.puts ts l σ with
    | some σ' => .ok .nx σ' st
    | none => .no
  | _ => .no
def sPutL (ts : List Tg) (m : EM) : SMm := fun σ st => (m σ st).to σ (putLK ts σ)
section
variable {K : PySem.W.Frag} {cl : Cls} {X : Cx} {Wx : WX}
theorem ss_putL {ts : List Tg} {m : EM} {es : List Expr} {e : Expr} {k : Nat} {tp pos : Pos} (g : GX K X) (ht : SGs K cl X ts es) (hl : es.length = ts.length) (hn : (assignEach es X.env).length = es.length) (hst : (assignEach es X.env).findIdx? (·.1) = none) (h : SE K cl X Wx m e)
    (hs : swapsWithSole [.Tuple es k tp] e pos.line X.env = pure false) (hw : swappedStores [.Tuple es k tp] e X.env = pure none)
    (h1 : (assignEach [.Tuple es k tp] X.env).map (·.2) = [PySem.assign (.Tuple es k tp) X.env]) : SS K cl X Wx (sPutL ts m) (.Assign [.Tuple es k tp] e pos) := by
  refine ⟨fun E0 ρ G σ st τ H D R S q => TS'.of (ps_asg T.pe (pg_lst (n := es.length) g.hc TGsc.pgs hn hst) hs hw h1) ?_⟩
  refine h.run E0 ρ G σ st τ H _ R S (AftS.seq S q fun w st1 ρ1 G1 H1 v e1 p1 s1 R1 u1 h1 => ?_)
  unfold putLK at h1
  split at h1
  · rename_i l
    split at h1
    · rename_i σ' e
      cases u1 with
      | lst hh qq =>
        refine ⟨_, _, rfl, ?_, ?_, ht.run ρ1 G1 H1 _ _ σ σ' τ _ R1.sub (S.mono p1 s1) qq e fun τ' S' _ => AftS.nx h1 R1 S'⟩
        · exact .inl (.inl (R1.sub _ _ hh))
        · rw [← qq.length, hl]; exact puts_len e
    · exact h1.elim
  · exact h1.elim
end
end Y
namespace Y
open PySem PySem.Spec PyProof.Rows L2
def nlR (F : FM) : FM := fun ws st => match F ws st with
  | .ok w st1 => if nlW w = true ∧ st1.all nlC = true then .ok w st1 else .no
  | _ => .no
theorem spF_up {K : PySem.W.Frag} {c d : Cls} (u : Up c d) {F : FM} {vs : List V} {H : Hp} {Q : VK} {E : XK} (h : spF K c (nlR F) vs H Q E) : spF K d F vs H Q E := by
  obtain ⟨ρ0, G0, st0, ws, R, r, a⟩ := h
  refine ⟨ρ0, G0, st0, ws, R.up u, r.up u, ?_⟩
  unfold nlR at a
  cases e : F ws st0 with
  | ok w st1 =>
    rw [e] at a
    dsimp only at a
    split at a
    · rename_i n
      intro ρ' G' H' b p s R' rb
      exact a ρ' G' H' b p s (R'.down u n.2) (RW.down u n.1 rb)
    · exact a.elim
  | exc x st1 => rw [e] at a; exact a.elim
  | no => rw [e] at a; exact a.elim
theorem help_fnC {P : Program} {w : World} {K : PySem.W.Frag} {mg : Str → Option Value} {base : Heap} {N ps : List Str} {x qual : Str} {params : Arguments} {body : List Stmt} {scope : Scope} {p : Str × Option Str} {fd : FuncData} {k : Nat} {m : SMm} (c0 : List (Str × List (Str × Addr)) → Cls) (fr : List (Str × List (Str × Addr)))
    (F : FunD K x qual params body scope [] [] (He.fAd K p) fd) (S : FnScope N ps scope) (hU : ∀ q, Up (c0 fr) (c0 (fr ++ [q])))
    (hb : ∀ (A : Around) (outer : List Env) (s : Shared) (H : Hp) (E : XK), GX K (cxD P w K mg base N qual scope (He.fAd K p) (.ref (He.codeOf K p)) A outer s H E) → Room k (A.deeper (envOfC qual scope s.heap.objs.size (He.fAd K p) (.ref (He.codeOf K p)))) →
      SSs K (c0 (fr ++ [((cxD P w K mg base N qual scope (He.fAd K p) (.ref (He.codeOf K p)) A outer s H E).env.qual ++ ("<lambda>" : Str), (cxD P w K mg base N qual scope (He.fAd K p) (.ref (He.codeOf K p)) A outer s H E).env.cells)])) (cxD P w K mg base N qual scope (He.fAd K p) (.ref (He.codeOf K p)) A outer s H E) WF m body) :
    FnOk P w K mg base CX0 (k + 1) (He.fAd K p) fd ps (spF K (c0 fr) (nlR (runF ps.length N.length m))) := by
  obtain ⟨oc, od, dV, kV, doc, pm, an, cdv, ct, osl, rfl, lk, hcd, _, _⟩ := F.ex
  obtain ⟨c, rfl⟩ := He.codeIn_ref hcd
  rw [He.codeOf_eq lk rfl] at hb
  refine fn_of lk hcd S (fun vs H Q E h => ?_) fun A outer s H vs Q E hr h => ⟨TSs' (cxD P w K mg base N qual scope (He.fAd K p) (.ref c) A outer s H E) body, PSs.nox TSs'.pss, fn_end S (hb A outer s H E (gx_of S hr) hr) (spF_up (hU _) h)⟩
  obtain ⟨ρ0, G0, st0, ws, R, r, a⟩ := h
  unfold nlR runF at a
  by_cases hl : ws.length = ps.length
  · rw [← r.length]; exact hl
  · rw [if_neg hl] at a
    exact a.elim
end Y
namespace Y
open PySem PySem.Spec PyProof.Rows L2
open LamX (CodeO ExtN TabB lamCx lamEnv GivesTo)
def mTryVF (tb : List (Nat × Str × Option Str)) (J : Nat) (f : Nat → Option EM) (m : EM) : EM := fun σ st => (m σ st).bind fun w st1 => match w with
  | .p (.lam j i) => if j = J then (match f i with | some b => mTryL tb b σ st1 | none => .no) else .no
  | _ => .no
section
variable {K : PySem.W.Frag} {cl : Cls} {X : Cx} {Wx : WX}
theorem se_tryVF {tb : List (Nat × Str × Option Str)} {x : Str} {g CS CM CN : Addr} {k J : Nat} {f : Nat → Option EM} {m : EM} {e : Expr} {p pos : Pos} (D : LamD X.prog X.w X.K X.mg X.base x g CS CM CN) (ok : ∀ q ∈ tb, TryC X.K cl CS CM CN q.1 q.2.1 q.2.2) (gx : GX K X) (hr : Room (k + 2) X.A)
    (hg : Gl X x) (hm : X.mg x = some (.ref g)) (hf : cl.fr[J]? = some (X.env.qual ++ ("<lambda>" : Str), X.env.cells)) (hb : ∀ i b, f i = some b → LamOk1 K cl X k i b) (he : SE K cl X Wx m e)
    (hdb : (x == ("__debug__" : Str)) = false) (hst : starEach [e] X.env = (false, eval e X.env) :: starEach [] X.env := by rfl) : SE K cl X Wx (mTryVF tb J f m) (.Call (.Name x p) [e] [] pos) := by
  have hK := gx.hK
  subst hK
  refine ⟨fun E0 ρ G σ st τ H Q R S h pins s I => ?_⟩
  refine wpAny_Call_Name_kw (ld_glob I hg hm ?_ hdb)
  refine PySem.W.callWith_K (h₀ := X.base) I.ok.mod.kin D.kp ?_ (by rw [hst]) (by rfl)
  rw [hst]
  show wpAny _ _ (spliced ((false, eval e X.env) :: backTo pos (starEach [] X.env))) _ _ _
  refine Calls.spliced_cons ?_
  have hT := he.run E0 ρ G σ st τ H (fun v H1 => ∃ w st1 ρ1 G1, ρ <+: ρ1 ∧ Sub G G1 ∧ (bs X.K cl E0).Rel ρ1 G1 st1 H1 ∧ RW X.K cl ρ1 G1 w v ∧ Aft (bs X.K cl E0) (bs X.K cl E0).RW ρ1 G1 (match w with
      | .p (.lam j i) => if j = J then (match f i with | some b => mTryL tb b σ st1 | none => .no) else .no
      | _ => .no) Q (fun c d H' => Wx c d τ H')) R S (Aft.seq h fun w st1 ρ1 G1 H1 v _ p1 s1 R1 u1 h1 => ⟨w, st1, ρ1, G1, p1, s1, R1, u1, h1⟩)
  refine thn (hT pins _ I) fun u s1 hv => ?_
  obtain ⟨v, H1, I1, rv, w, st1, ρ1, G1, p1, s1', R1, u1, h1⟩ := hv
  refine Calls.spliced_nil ⟨I1.kIn, ?_⟩
  split at h1
  case h_2 => exact h1.elim
  rename_i j i
  split at h1
  case isFalse => exact h1.elim
  rename_i hj
  subst hj
  split at h1
  case h_2 => exact h1.elim
  rename_i b hbi
  have hb1 := hb _ _ hbi
  exact call_try D ⟨rfl, rfl, rfl, rfl, rfl⟩ ok gx hr hf hb1 I1 (Inv.cfc I1) R1 (S.mono p1 s1') u1 rv h1
def offF (i0 : Nat) (ms : List EM) : Nat → Option EM := fun i => if i0 ≤ i then ms[i - i0]? else none
theorem offF_ok {k i0 : Nat} {ms : List EM} (h : LamsOk K cl X k i0 ms) : ∀ i b, offF i0 ms i = some b → LamOk1 K cl X k i b := fun i b e => by
  unfold offF at e
  split at e
  · have := h.get e
    rw [show i0 + (i - i0) = i by omega] at this
    exact this
  · cases e
theorem lamVT {j i : Nat} {r : LamR} {c Pt : Addr} {pos : Pos} {l1 l2 : List (Addr × Str)} (gx : GX K X) (hr : cl.lm[i]? = some r) (hf : cl.fr[j]? = some (X.env.qual ++ ("<lambda>" : Str), X.env.cells)) (TB : TabB X.base X.mg c Pt) (hcode : X.env.code = .ref c) (hT : cl.tb = l1 ++ (Pt, X.env.qual ++ ("<lambda>" : Str)) :: l2) (ne : ∀ p ∈ l1 ++ l2, p.1 ≠ Pt)
    (L : lamS3B X.N X.env.scope r.scope = true) (hdef : DefOk r X.env) : SE K cl X Wx (mLam j i) (.Lambda r.params r.body r.scope pos) :=
  se_lam gx hr hf TB hcode (by rw [hT]; simp) (fun p hp e => by
    rw [hT] at hp
    rcases List.mem_append.mp hp with hp | hp
    · exact absurd e (ne p (List.mem_append_left _ hp))
    · rcases List.mem_cons.mp hp with rfl | hp
      · rfl
      · exact absurd e (ne p (List.mem_append_right _ hp))) L hdef
end
end Y
namespace Y
open PySem PySem.Spec PyProof.Rows L2
theorem Fk.ofH {P : Program} {w : World} {K : PySem.W.Frag} {mg : Str → Option Value} {base : Heap} {N ps : List Str} {x qual : Str} {params : Arguments} {body : List Stmt} {scope : Scope} {p : Str × Option Str} {k : Nat} {m : SMm} (c0 : List (Str × List (Str × Addr)) → Cls) (fr : List (Str × List (Str × Addr)))
    (F : ∃ fd, FunD K x qual params body scope [] [] (He.fAd K p) fd) (S : FnScope N ps scope) (bd : ∀ (kV doc pm : Value) (an : Option Addr) (cdv ct : Value) (us : List Value), us.length = ps.length → bindArgs (PySem.W.fnOf x qual params body scope .none kV doc pm an cdv ct) ⟨us, []⟩ = pure (ps.zip us))
    (hU : ∀ q, Up (c0 fr) (c0 (fr ++ [q])))
    (hb : ∀ (A : Around) (outer : List Env) (s : Shared) (H : Hp) (E : XK), GX K (cxD P w K mg base N qual scope (He.fAd K p) (.ref (He.codeOf K p)) A outer s H E) → Room k (A.deeper (envOfC qual scope s.heap.objs.size (He.fAd K p) (.ref (He.codeOf K p)))) →
      SSs K (c0 (fr ++ [((cxD P w K mg base N qual scope (He.fAd K p) (.ref (He.codeOf K p)) A outer s H E).env.qual ++ ("<lambda>" : Str), (cxD P w K mg base N qual scope (He.fAd K p) (.ref (He.codeOf K p)) A outer s H E).env.cells)])) (cxD P w K mg base N qual scope (He.fAd K p) (.ref (He.codeOf K p)) A outer s H E) WF m body) :
    Fk P w K mg base (c0 fr) (k + 1) (He.fAd K p) ps (nlR (runF ps.length N.length m)) := by
  obtain ⟨fd, F⟩ := F
  exact ⟨⟨fd, help_fnC c0 fr F S hU hb, F.bindsN bd⟩, F.kp⟩
theorem up_of {c0 : List (Str × List (Str × Addr)) → Cls} {fr : List (Str × List (Str × Addr))} (hl : ∀ a b, (c0 a).l = (c0 b).l) (hm : ∀ a b, (c0 a).lm = (c0 b).lm) (hw : ∀ a b, (c0 a).wd = (c0 b).wd) (ht : ∀ a b, (c0 a).tb = (c0 b).tb) (hf : ∀ a, (c0 a).fr = a) (q : Str × List (Str × Addr)) : Up (c0 fr) (c0 (fr ++ [q])) :=
  ⟨hl _ _, hm _ _, hw _ _, ht _ _, fun j x e => by
    rw [hf] at e ⊢
    rw [List.getElem?_append_left (List.getElem?_eq_some_iff.mp e).1]; exact e⟩
theorem ne_l {a : Addr × Str} {Pt : Addr} (h : a.1 ≠ Pt) : ∀ p ∈ [a] ++ ([] : List (Addr × Str)), p.1 ≠ Pt := fun p hp => by
  have e : p = a := by simpa using hp
  rw [e]; exact h
theorem ne_r {a : Addr × Str} {Pt : Addr} (h : a.1 ≠ Pt) : ∀ p ∈ ([] : List (Addr × Str)) ++ [a], p.1 ≠ Pt := fun p hp => by
  have e : p = a := by simpa using hp
  rw [e]; exact h
end Y
namespace YZ
open Y PySem PySem.Spec PyProof.Rows L2
section
variable {α β : Type} {st st1 : List Cell} {σ : Sg}
@[simp] theorem Res.bind_ok (a : α) (st : List Cell) (k : α → List Cell → Res β) : (Res.ok a st).bind k = k a st := rfl
@[simp] theorem Res.bind_no (k : α → List Cell → Res β) : (Res.no : Res α).bind k = .no := rfl
@[simp] theorem Res.bind_exc (x : Exn) (st : List Cell) (k : α → List Cell → Res β) : (Res.exc x st : Res α).bind k = .exc x st := rfl
@[simp] theorem Res.nox_ok (a : α) (st : List Cell) : (Res.ok a st).nox = .ok a st := rfl
@[simp] theorem Res.nox_no : (Res.no : Res α).nox = .no := rfl
@[simp] theorem Res.to_no (k : α → List Cell → SR) : (Res.no : Res α).to σ k = .no := rfl
@[simp] theorem SR.then_no (k : Sg → List Cell → SR) : SR.no.then k = .no := rfl
@[simp] theorem Res.to_ok (a : α) (st : List Cell) (k : α → List Cell → SR) : (Res.ok a st).to σ k = k a st := rfl
@[simp] theorem SR.then_nx (k : Sg → List Cell → SR) : (SR.ok .nx σ st).then k = k σ st := rfl
@[simp] theorem SR.then_rt (w : W) (k : Sg → List Cell → SR) : (SR.ok (.rt w) σ st).then k = .ok (.rt w) σ st := rfl
@[simp] theorem SR.then_bk (k : Sg → List Cell → SR) : (SR.ok .bk σ st).then k = .ok .bk σ st := rfl
@[simp] theorem SR.then_ct (k : Sg → List Cell → SR) : (SR.ok .ct σ st).then k = .ok .ct σ st := rfl
@[simp] theorem Res.bind_ite {c : Prop} [Decidable c] (a b : Res α) (k : α → List Cell → Res β) : (if c then a else b).bind k = if c then a.bind k else b.bind k := by split <;> rfl
@[simp] theorem Res.nox_ite {c : Prop} [Decidable c] (a b : Res α) : (if c then a else b).nox = if c then a.nox else b.nox := by split <;> rfl
@[simp] theorem Res.to_ite {c : Prop} [Decidable c] (a b : Res α) (k : α → List Cell → SR) : (if c then a else b).to σ k = if c then a.to σ k else b.to σ k := by split <;> rfl
@[simp] theorem SR.then_ite {c : Prop} [Decidable c] (a b : SR) (k : Sg → List Cell → SR) : (if c then a else b).then k = if c then a.then k else b.then k := by split <;> rfl
theorem ofS_inj {a b : String} : Str.ofString a = Str.ofString b ↔ a = b := by
  constructor
  · intro h
    rw [Str.ofString_eq_toList, Str.ofString_eq_toList] at h
    have h2 : a.toList.map Char.toNat = b.toList.map Char.toNat := by simpa using h
    have h3 : ∀ (l m : List Char), l.map Char.toNat = m.map Char.toNat → l = m := by
      intro l
      induction l with
      | nil => intro m e; cases m with
        | nil => rfl
        | cons c m => cases e
      | cons c l ih => intro m e; cases m with
        | nil => cases e
        | cons d m =>
          rw [List.map_cons, List.map_cons] at e
          obtain ⟨e1, e2⟩ := List.cons.inj e
          rw [ih m e2]
          congr 1
          exact Char.ext (UInt32.toNat_inj.mp e1)
    exact String.toList_inj.mp (h3 _ _ h2)
  · intro h; rw [h]
@[simp] theorem ofS_eq {a b : String} : (Str.ofString a = Str.ofString b) = (a = b) := propext ofS_inj
@[simp] theorem ofS_beq {a b : String} : (Str.ofString a == Str.ofString b) = decide (a = b) := by
  by_cases h : a = b
  · subst h; simp
  · rw [decide_eq_false h, beq_eq_false_iff_ne]; exact fun e => h (ofS_inj.mp e)
@[simp] theorem ofS_len {a : String} : (Str.ofString a).length = a.length := by
  rw [Str.ofString_eq_toList]; simp [Str.length, String.length_toList]
@[simp] theorem LIM_e : LIM = 1000000 := rfl
def varF (o : Option (Option W)) (st : List Cell) : Res W := match o with
  | some (some w) => .ok w st
  | _ => .no
@[simp] theorem varF_e (w : W) : varF (some (some w)) st = .ok w st := rfl
@[simp] theorem mVar_e (i : Nat) : mVar i σ st = varF σ[i]? st := rfl
@[simp] theorem mC_e (x : P) : mC x σ st = .ok (.p x) st := rfl
def binK (f : W → W → List Cell → Res W) (b : EM) (σ : Sg) (x : W) (st1 : List Cell) : Res W := (b σ st1).bind (f x)
@[simp] theorem binK_e (f : W → W → List Cell → Res W) (b : EM) (x : W) : binK f b σ x st = (b σ st).bind (f x) := rfl
@[simp] theorem mBin_e (f : W → W → List Cell → Res W) (a b : EM) : mBin f a b σ st = (a σ st).bind (binK f b σ) := rfl
def truR (o : Option Bool) (st : List Cell) : Res Bool := match o with
  | some k => .ok k st
  | none => .no
@[simp] theorem truR_e (k : Bool) : truR (some k) st = .ok k st := rfl
def truK (w : W) (st1 : List Cell) : Res Bool := truR (vTru st1 w) st1
@[simp] theorem truK_e (w : W) : truK w st = truR (vTru st w) st := rfl
@[simp] theorem mTru_e (m : EM) : mTru m σ st = (m σ st).bind truK := rfl
@[simp] theorem vTru_bl (b : Bool) : vTru st (.p (.bl b)) = some b := rfl
@[simp] theorem vTru_int (b : Int) : vTru st (.p (.int b)) = some (b != 0) := rfl
@[simp] theorem vTru_lst (l : List P) : vTru st (.p (.lst l)) = some (!l.isEmpty) := rfl
@[simp] theorem vTru_tup (l : List P) : vTru st (.p (.tup l)) = some (!l.isEmpty) := rfl
def tstR (w : W) (st : List Cell) : Res Bool := match w with
  | .p (.bl k) => .ok k st
  | _ => .no
@[simp] theorem tstR_e (k : Bool) : tstR (.p (.bl k)) st = .ok k st := rfl
@[simp] theorem mTst_e (m : EM) : mTst m σ st = (m σ st).bind tstR := rfl
def andK (b : TM) (σ : Sg) (c : Bool) (st1 : List Cell) : Res Bool := if c = true then b σ st1 else .ok false st1
@[simp] theorem andK_e (b : TM) (c : Bool) : andK b σ c st = if c = true then b σ st else .ok false st := rfl
@[simp] theorem mAndT_e (a b : TM) : mAndT a b σ st = (a σ st).bind (andK b σ) := rfl
def orK (b : TM) (σ : Sg) (c : Bool) (st1 : List Cell) : Res Bool := if c = true then .ok true st1 else b σ st1
@[simp] theorem orK_e (b : TM) (c : Bool) : orK b σ c st = if c = true then .ok true st else b σ st := rfl
@[simp] theorem mOrT_e (a b : TM) : mOrT a b σ st = (a σ st).bind (orK b σ) := rfl
def notK (c : Bool) (st1 : List Cell) : Res Bool := .ok (!c) st1
@[simp] theorem notK_e (c : Bool) : notK c st = .ok (!c) st := rfl
@[simp] theorem mNotT_e (a : TM) : mNotT a σ st = (a σ st).bind notK := rfl
def andVK2 (b : EM) (σ : Sg) (c : Bool) (st1 : List Cell) : Res W := if c = true then b σ st1 else .ok (.p (.bl false)) st1
@[simp] theorem andVK2_e (b : EM) (c : Bool) : andVK2 b σ c st = if c = true then b σ st else .ok (.p (.bl false)) st := rfl
def andVK (b : EM) (σ : Sg) (w : W) (st1 : List Cell) : Res W := (tstR w st1).bind (andVK2 b σ)
@[simp] theorem andVK_e (b : EM) (w : W) : andVK b σ w st = (tstR w st).bind (andVK2 b σ) := rfl
@[simp] theorem mAndV_e (a b : EM) : mAndV a b σ st = (a σ st).bind (andVK b σ) := by
  unfold mAndV
  congr 1; funext w st1
  cases w with
  | p x => cases x <;> rfl
  | r i => rfl
def orVK2 (b : EM) (σ : Sg) (c : Bool) (st1 : List Cell) : Res W := if c = true then .ok (.p (.bl true)) st1 else b σ st1
@[simp] theorem orVK2_e (b : EM) (c : Bool) : orVK2 b σ c st = if c = true then .ok (.p (.bl true)) st else b σ st := rfl
def orVK (b : EM) (σ : Sg) (w : W) (st1 : List Cell) : Res W := (tstR w st1).bind (orVK2 b σ)
@[simp] theorem orVK_e (b : EM) (w : W) : orVK b σ w st = (tstR w st).bind (orVK2 b σ) := rfl
@[simp] theorem mOrV_e (a b : EM) : mOrV a b σ st = (a σ st).bind (orVK b σ) := by
  unfold mOrV
  congr 1; funext w st1
  cases w with
  | p x => cases x <;> rfl
  | r i => rfl
def notVK2 (c : Bool) (st1 : List Cell) : Res W := .ok (.p (.bl (!c))) st1
@[simp] theorem notVK2_e (c : Bool) : notVK2 c st = .ok (.p (.bl (!c))) st := rfl
def notVK (w : W) (st1 : List Cell) : Res W := (tstR w st1).bind notVK2
@[simp] theorem notVK_e (w : W) : notVK w st = (tstR w st).bind notVK2 := rfl
@[simp] theorem mNotV_e (a : EM) : mNotV a σ st = (a σ st).bind notVK := by
  unfold mNotV
  congr 1; funext w st1
  cases w with
  | p x => cases x <;> rfl
  | r i => rfl
def ifK {α : Type} (a b : Sg → List Cell → α) (σ : Sg) (k : Bool) (st1 : List Cell) : α := if k = true then a σ st1 else b σ st1
@[simp] theorem ifK_e {α : Type} (a b : Sg → List Cell → α) (k : Bool) : ifK a b σ k st = if k = true then a σ st else b σ st := rfl
@[simp] theorem mIfE_e (c : TM) (a b : EM) : mIfE c a b σ st = (c σ st).bind (ifK a b σ) := rfl
@[simp] theorem mNil_e : mNil σ st = .ok [] st := rfl
def consK2 (w : W) (ws : List W) (st2 : List Cell) : Res (List W) := .ok (w :: ws) st2
@[simp] theorem consK2_e (w : W) (ws : List W) : consK2 w ws st = .ok (w :: ws) st := rfl
def consK (r : AM) (σ : Sg) (w : W) (st1 : List Cell) : Res (List W) := (r σ st1).bind (consK2 w)
@[simp] theorem consK_e (r : AM) (w : W) : consK r σ w st = (r σ st).bind (consK2 w) := rfl
@[simp] theorem mCons_e (a : EM) (r : AM) : mCons a r σ st = (a σ st).bind (consK r σ) := rfl
@[simp] theorem pures_nil : pures [] = some [] := rfl
@[simp] theorem pures_cons (x : P) (l : List W) : pures (.p x :: l) = (pures l).map (x :: ·) := rfl
@[simp] theorem pures_ref (i : Nat) (l : List W) : pures (.r i :: l) = none := rfl
@[simp] theorem pures_mapS (l : List P) : pures (l.map W.p) = some l := pures_map l
def pR (f : List P → W) (o : Option (List P)) (st : List Cell) : Res W := match o with
  | some l => .ok (f l) st
  | none => .no
def pRL (f : List P → W) (o : Option (List P)) (st : List Cell) : Res W := match o with
  | some l => if l.length ≤ 1000000 then .ok (f l) st else .no
  | none => .no
@[simp] theorem pRL_e (f : List P → W) (l : List P) : pRL f (some l) st = if l.length ≤ 1000000 then .ok (f l) st else .no := rfl
@[simp] theorem pR_e (f : List P → W) (l : List P) : pR f (some l) st = .ok (f l) st := rfl
def tupK (ws : List W) (st1 : List Cell) : Res W := pRL (fun l => .p (.tup l)) (pures ws) st1
@[simp] theorem tupK_e (ws : List W) : tupK ws st = pRL (fun l => .p (.tup l)) (pures ws) st := rfl
@[simp] theorem mTup_e (a : AM) : mTup a σ st = (a σ st).bind tupK := by
  unfold mTup
  rfl
def lstK (ws : List W) (st1 : List Cell) : Res W := pRL (fun l => .p (.lst l)) (pures ws) st1
@[simp] theorem lstK_e (ws : List W) : lstK ws st = pRL (fun l => .p (.lst l)) (pures ws) st := rfl
@[simp] theorem mLst_e (a : AM) : mLst a σ st = (a σ st).bind lstK := by
  unfold mLst
  rfl
def lstCK (ws : List W) (st1 : List Cell) : Res W := if ws.length ≤ 1000000 then .ok (.r st1.length) (st1 ++ [.lst ws]) else .no
@[simp] theorem lstCK_e (ws : List W) : lstCK ws st = if ws.length ≤ 1000000 then .ok (.r st.length) (st ++ [.lst ws]) else .no := rfl
@[simp] theorem mLstC_e (a : AM) : mLstC a σ st = (a σ st).bind lstCK := rfl
@[simp] theorem mCallV_e (f : List W → List Cell → Res W) (a : AM) : mCallV f a σ st = (a σ st).bind f := rfl
def chK4 (f2 : W → W → List Cell → Res W) (c : EM) (σ : Sg) (y : W) (k : Bool) (st1 : List Cell) : Res W := if k = true then (c σ st1).bind (f2 y) else .ok (.p (.bl false)) st1
@[simp] theorem chK4_e (f2 : W → W → List Cell → Res W) (c : EM) (y : W) (k : Bool) : chK4 f2 c σ y k st = if k = true then (c σ st).bind (f2 y) else .ok (.p (.bl false)) st := rfl
def chK3 (f2 : W → W → List Cell → Res W) (c : EM) (σ : Sg) (y t : W) (st1 : List Cell) : Res W := (tstR t st1).bind (chK4 f2 c σ y)
@[simp] theorem chK3_e (f2 : W → W → List Cell → Res W) (c : EM) (y t : W) : chK3 f2 c σ y t st = (tstR t st).bind (chK4 f2 c σ y) := rfl
def chK2 (f f2 : W → W → List Cell → Res W) (c : EM) (σ : Sg) (x y : W) (st1 : List Cell) : Res W := (f x y st1).bind (chK3 f2 c σ y)
@[simp] theorem chK2_e (f f2 : W → W → List Cell → Res W) (c : EM) (x y : W) : chK2 f f2 c σ x y st = (f x y st).bind (chK3 f2 c σ y) := rfl
def chK (f f2 : W → W → List Cell → Res W) (b c : EM) (σ : Sg) (x : W) (st1 : List Cell) : Res W := (b σ st1).bind (chK2 f f2 c σ x)
@[simp] theorem chK_e (f f2 : W → W → List Cell → Res W) (b c : EM) (x : W) : chK f f2 b c σ x st = (b σ st).bind (chK2 f f2 c σ x) := rfl
@[simp] theorem mChain_e (f f2 : W → W → List Cell → Res W) (a b c : EM) : mChain f f2 a b c σ st = (a σ st).bind (chK f f2 b c σ) := by
  unfold mChain
  congr 1; funext x st1
  unfold chK
  congr 1; funext y st2
  unfold chK2
  congr 1; funext t st3
  cases t with
  | p x => cases x <;> rfl
  | r i => rfl
def negR (w : W) (st : List Cell) : Res W := match w with
  | .p (.int i) => .ok (.p (.int (-i))) st
  | _ => .no
@[simp] theorem negR_e (i : Int) : negR (.p (.int i)) st = .ok (.p (.int (-i))) st := rfl
@[simp] theorem mNeg_e (a : EM) : mNeg a σ st = (a σ st).bind negR := rfl
def osR (w : W) (st : List Cell) : Res (Option Int) := match w with
  | .p (.int i) => .ok (some i) st
  | _ => .no
@[simp] theorem osR_e (i : Int) : osR (.p (.int i)) st = .ok (some i) st := rfl
@[simp] theorem oNone_e : oNone σ st = .ok none st := rfl
@[simp] theorem oSome_e (a : EM) : oSome a σ st = (a σ st).bind osR := rfl
def slK2 (x : W) (l u : Option Int) (st3 : List Cell) : Res W := vSl x l u st3
@[simp] theorem slK2_e (x : W) (l u : Option Int) : slK2 x l u st = vSl x l u st := rfl
def slK1 (hi : OM) (σ : Sg) (x : W) (l : Option Int) (st2 : List Cell) : Res W := (hi σ st2).bind (slK2 x l)
@[simp] theorem slK1_e (hi : OM) (x : W) (l : Option Int) : slK1 hi σ x l st = (hi σ st).bind (slK2 x l) := rfl
def slK (lo hi : OM) (σ : Sg) (x : W) (st1 : List Cell) : Res W := (lo σ st1).bind (slK1 hi σ x)
@[simp] theorem slK_e (lo hi : OM) (x : W) : slK lo hi σ x st = (lo σ st).bind (slK1 hi σ x) := rfl
@[simp] theorem mSl_e (a : EM) (lo hi : OM) : mSl a lo hi σ st = (a σ st).bind (slK lo hi σ) := rfl
def callK (F : FM) (ws : List W) (st1 : List Cell) : Res W := (callF F ws st1).nox
@[simp] theorem callK_e (F : FM) (ws : List W) : callK F ws st = (callF F ws st).nox := rfl
@[simp] theorem mCallF_e (F : FM) (a : AM) : mCallF F a σ st = (a σ st).bind (callK F) := rfl
@[simp] theorem clsOf_obj (c : Nat) (l : List P) : clsOf st (.p (.obj c l)) = some c := rfl
def clsR (F : FM) (w : W) (ok : Bool) (r : Res (List W)) : Res W := if ok = true then r.bind fun ws st2 => (callF F (w :: ws) st2).nox else .no
def callO (F : FM) (w : W) (ws : List W) (st1 : List Cell) : Res W := (callF F (w :: ws) st1).nox
@[simp] theorem callO_e (F : FM) (w : W) (ws : List W) : callO F w ws st = (callF F (w :: ws) st).nox := rfl
@[simp] theorem clsR_e (F : FM) (w : W) (r : Res (List W)) : clsR F w true r = r.bind (callO F w) := rfl
def methK (c : Nat) (F : FM) (a : AM) (σ : Sg) (w : W) (st1 : List Cell) : Res W := clsR F w (decide (clsOf st1 w = some c)) (a σ st1)
@[simp] theorem methK_e (c : Nat) (F : FM) (a : AM) (w : W) : methK c F a σ w st = clsR F w (decide (clsOf st w = some c)) (a σ st) := rfl
@[simp] theorem mMeth_e (c : Nat) (F : FM) (o : EM) (a : AM) : mMeth c F o a σ st = (o σ st).bind (methK c F a σ) := by
  unfold mMeth
  congr 1; funext w st1
  unfold methK clsR
  by_cases h : clsOf st1 w = some c
  · simp only [h, if_true, decide_true]
  · simp only [h, if_false, decide_false]; rfl
@[simp] theorem mInv_e (c : Nat) (F : FM) (a : EM) : mInv c F a σ st = (a σ st).bind (methK c F mNil σ) := by
  unfold mInv
  congr 1; funext w st1
  unfold methK clsR
  by_cases h : clsOf st1 w = some c
  · simp only [h, if_true, decide_true]; rfl
  · simp only [h, if_false, decide_false]; rfl
@[simp] theorem mMake_e (c n : Nat) (F : FM) (a : AM) : mMake c n F a σ st = (a σ st).bind (makeF c n F) := rfl
def fldR (cs : List (Nat × Nat)) (w : W) (st1 : List Cell) : Res W := match w with
  | .p (.obj c l) => match cs.lookup c with
    | some i => match l[i]? with
      | some x => .ok (.p x) st1
      | none => .no
    | none => .no
  | .r j => match st1[j]? with
    | some (.ins c l) => match cs.lookup c with
      | some i => match l[i]? with
        | some x => .ok x st1
        | none => .no
      | none => .no
    | _ => .no
  | _ => .no
@[simp] theorem mFld_e (cs : List (Nat × Nat)) (o : EM) : mFld cs o σ st = (o σ st).bind (fldR cs) := rfl
def runR : SR → Res W
  | .ok .nx _ st1 => .ok (.p .non) st1
  | .ok (.rt w) _ st1 => .ok w st1
  | _ => .no
@[simp] theorem runR_nx : runR (.ok .nx σ st) = .ok (.p .non) st := rfl
@[simp] theorem runR_rt (w : W) : runR (.ok (.rt w) σ st) = .ok w st := rfl
@[simp] theorem runR_no : runR .no = .no := rfl
@[simp] theorem runR_ite {c : Prop} [Decidable c] (a b : SR) : runR (if c then a else b) = if c then runR a else runR b := by split <;> rfl
theorem runF_e (np N : Nat) (m : SMm) (ws : List W) : runF np N m ws st = if ws.length = np then runR (m (ws.map some ++ List.replicate (N - np) none) st) else .no := by
  unfold runF
  split
  · generalize m (List.map some ws ++ List.replicate (N - np) none) st = r
    cases r with
    | ok f _ _ => cases f <;> rfl
    | exc _ _ _ => rfl
    | no => rfl
  · rfl
@[simp] theorem sNx_e : sNx σ st = .ok .nx σ st := rfl
@[simp] theorem sSeq_e (a b : SMm) : sSeq a b σ st = (a σ st).then b := rfl
@[simp] theorem sPass_e : sPass σ st = .ok .nx σ st := rfl
@[simp] theorem sBrk_e : sBrk σ st = .ok .bk σ st := rfl
@[simp] theorem sCnt_e : sCnt σ st = .ok .ct σ st := rfl
def retK (σ : Sg) (w : W) (st1 : List Cell) : SR := .ok (.rt w) σ st1
@[simp] theorem retK_e (w : W) : retK σ w st = .ok (.rt w) σ st := rfl
@[simp] theorem sRet_e (m : EM) : sRet m σ st = (m σ st).to σ (retK σ) := rfl
@[simp] theorem sRetN_e : sRetN σ st = .ok (.rt (.p .non)) σ st := rfl
def expK (σ : Sg) (w : W) (st1 : List Cell) : SR := .ok .nx σ st1
@[simp] theorem expK_e (w : W) : expK σ w st = .ok .nx σ st := rfl
@[simp] theorem sExpr_e (m : EM) : sExpr m σ st = (m σ st).to σ (expK σ) := rfl
def setK (i : Nat) (σ : Sg) (w : W) (st1 : List Cell) : SR := .ok .nx (σ.set i (some w)) st1
@[simp] theorem setK_e (i : Nat) (w : W) : setK i σ w st = .ok .nx (σ.set i (some w)) st := rfl
@[simp] theorem sSet_e (i : Nat) (m : EM) : sSet i m σ st = (m σ st).to σ (setK i σ) := rfl
@[simp] theorem sIf_e (c : TM) (a b : SMm) : sIf c a b σ st = (c σ st).to σ (ifK a b σ) := rfl
@[simp] theorem sNo_e : sNo σ st = .no := rfl
@[simp] theorem put_nm (i : Nat) (w : W) : Tg.put (.nm i) w σ = some (σ.set i (some w)) := by rw [Tg.put]
@[simp] theorem put_tp (ts : List Tg) (l : List P) : Tg.put (.tp ts) (.p (.tup l)) σ = Tg.puts ts l σ := by rw [Tg.put]
@[simp] theorem puts_nil : Tg.puts [] [] σ = some σ := by rw [Tg.puts]
@[simp] theorem puts_cons (t : Tg) (ts : List Tg) (x : P) (l : List P) : Tg.puts (t :: ts) (x :: l) σ = (Tg.put t (.p x) σ).bind fun σ' => Tg.puts ts l σ' := by
  rw [Tg.puts]; cases Tg.put t (.p x) σ <;> rfl
def putR (o : Option Sg) (st : List Cell) : SR := match o with
  | some σ' => .ok .nx σ' st
  | none => .no
@[simp] theorem putR_e : putR (some σ) st = .ok .nx σ st := rfl
def putK (t : Tg) (σ : Sg) (w : W) (st1 : List Cell) : SR := putR (t.put w σ) st1
@[simp] theorem putK_e (t : Tg) (w : W) : putK t σ w st = putR (t.put w σ) st := rfl
@[simp] theorem sPut_e (t : Tg) (m : EM) : sPut t m σ st = (m σ st).to σ (putK t σ) := rfl
def parR (i j : Nat) (σ : Sg) (ws : List W) (st1 : List Cell) : SR := match ws with
  | [v, w] => .ok .nx ((σ.set i (some v)).set j (some w)) st1
  | _ => .no
@[simp] theorem parR_e (i j : Nat) (v w : W) : parR i j σ [v, w] st = .ok .nx ((σ.set i (some v)).set j (some w)) st := rfl
@[simp] theorem sPar_e (i j : Nat) (a : AM) : sPar i j a σ st = (a σ st).to σ (parR i j σ) := rfl
def parR3 (i j l : Nat) (σ : Sg) (ws : List W) (st1 : List Cell) : SR := match ws with
  | [u, v, w] => .ok .nx (((σ.set i (some u)).set j (some v)).set l (some w)) st1
  | _ => .no
@[simp] theorem parR3_e (i j l : Nat) (u v w : W) : parR3 i j l σ [u, v, w] st = .ok .nx (((σ.set i (some u)).set j (some v)).set l (some w)) st := rfl
@[simp] theorem sPar3_e (i j l : Nat) (a : AM) : sPar3 i j l a σ st = (a σ st).to σ (parR3 i j l σ) := rfl
def starR (i j : Nat) (σ : Sg) (w : W) (st1 : List Cell) : SR := match w with
  | .p (.tup (x :: l)) => if l.length < 16384 then .ok .nx ((σ.set i (some (.p x))).set j (some (.p (.lst l)))) st1 else .no
  | _ => .no
@[simp] theorem starR_e (i j : Nat) (x : P) (l : List P) : starR i j σ (.p (.tup (x :: l))) st = if l.length < 16384 then .ok .nx ((σ.set i (some (.p x))).set j (some (.p (.lst l)))) st else .no := rfl
@[simp] theorem sStar_e (i j : Nat) (m : EM) : sStar i j m σ st = (m σ st).to σ (starR i j σ) := rfl
def mtR (cs : List (Str × SMm)) (σ : Sg) (w : W) (st1 : List Cell) : SR := match w with
  | .p (.str y) => mtF cs y σ st1
  | _ => .no
@[simp] theorem mtR_e (cs : List (Str × SMm)) (y : Str) : mtR cs σ (.p (.str y)) st = mtF cs y σ st := rfl
@[simp] theorem sMatch_e (m : EM) (cs : List (Str × SMm)) : sMatch m cs σ st = (m σ st).to σ (mtR cs σ) := rfl
@[simp] theorem mtF_nil (y : Str) : mtF [] y σ st = .ok .nx σ st := rfl
@[simp] theorem mtF_cons (z : Str) (b : SMm) (r : List (Str × SMm)) (y : Str) : mtF ((z, b) :: r) y σ st = if y = z then b σ st else mtF r y σ st := rfl
def augR (i : Nat) (σ : Sg) (r : Res W) : SR := match r with
  | .ok z st2 => .ok .nx (σ.set i (some z)) st2
  | _ => .no
@[simp] theorem augR_e (i : Nat) (z : W) : augR i σ (.ok z st) = .ok .nx (σ.set i (some z)) st := rfl
@[simp] theorem augR_no (i : Nat) : augR i σ .no = .no := rfl
@[simp] theorem augR_ite (i : Nat) {c : Prop} [Decidable c] (a b : Res W) : augR i σ (if c then a else b) = if c then augR i σ a else augR i σ b := by split <;> rfl
def augS (i : Nat) (f : W → W → List Cell → Res W) (m : EM) (σ : Sg) (st : List Cell) (o : Option (Option W)) : SR := match o with
  | some (some x) => (m σ st).to σ fun y st1 => augR i σ (f x y st1)
  | _ => .no
def augK (i : Nat) (f : W → W → List Cell → Res W) (σ : Sg) (x y : W) (st1 : List Cell) : SR := augR i σ (f x y st1)
@[simp] theorem augK_e (i : Nat) (f : W → W → List Cell → Res W) (x y : W) : augK i f σ x y st = augR i σ (f x y st) := rfl
@[simp] theorem augS_e (i : Nat) (f : W → W → List Cell → Res W) (m : EM) (x : W) : augS i f m σ st (some (some x)) = (m σ st).to σ (augK i f σ x) := rfl
@[simp] theorem sAug_e (i : Nat) (f : W → W → List Cell → Res W) (m : EM) : sAug i f m σ st = augS i f m σ st σ[i]? := by
  unfold sAug augS augR; rfl
def ixR (σ : Sg) (x : W) (w k : W) (st3 : List Cell) : SR := match w, k with
  | .r i, .p (.int n) => match st3[i]? with
    | some (.lst l) => match L2.ixN l.length n with
      | some j => .ok .nx σ (st3.set i (.lst (l.set j x)))
      | none => .no
    | _ => .no
  | _, _ => .no
def ixR2 (σ : Sg) (st3 : List Cell) (i : Nat) (x : W) (n : Int) (c : Option Cell) : SR := match c with
    | some (.lst l) => match L2.ixN l.length n with
      | some j => .ok .nx σ (st3.set i (.lst (l.set j x)))
      | none => .no
    | _ => .no
def ixR3 (σ : Sg) (st3 : List Cell) (i : Nat) (x : W) (l : List W) (o : Option Nat) : SR := match o with
      | some j => .ok .nx σ (st3.set i (.lst (l.set j x)))
      | none => .no
@[simp] theorem ixR_e (x : W) (i : Nat) (n : Int) : ixR σ x (.r i) (.p (.int n)) st = ixR2 σ st i x n st[i]? := rfl
@[simp] theorem ixR2_e (x : W) (i : Nat) (n : Int) (l : List W) : ixR2 σ st i x n (some (.lst l)) = ixR3 σ st i x l (L2.ixN l.length n) := rfl
@[simp] theorem ixR3_e (x : W) (i j : Nat) (l : List W) : ixR3 σ st i x l (some j) = .ok .nx σ (st.set i (.lst (l.set j x))) := rfl
def sixK2 (σ : Sg) (x w k : W) (st3 : List Cell) : SR := ixR σ x w k st3
@[simp] theorem sixK2_e (x w k : W) : sixK2 σ x w k st = ixR σ x w k st := rfl
def sixK1 (ix : EM) (σ : Sg) (x w : W) (st3 : List Cell) : SR := (ix σ st3).to σ (sixK2 σ x w)
@[simp] theorem sixK1_e (ix : EM) (x w : W) : sixK1 ix σ x w st = (ix σ st).to σ (sixK2 σ x w) := rfl
def sixK (o ix : EM) (σ : Sg) (x : W) (st3 : List Cell) : SR := (o σ st3).to σ (sixK1 ix σ x)
@[simp] theorem sixK_e (o ix : EM) (x : W) : sixK o ix σ x st = (o σ st).to σ (sixK1 ix σ x) := rfl
@[simp] theorem sSetIx_e (o ix m : EM) : sSetIx o ix m σ st = (m σ st).to σ (sixK o ix σ) := rfl
@[simp] theorem ixN_nat (n j : Nat) (h : j < n) : L2.ixN n ((j : Nat) : Int) = some j := by
  unfold L2.ixN; rw [if_pos (by omega), if_pos (by omega)]; simp
def setFR (cs : List (Nat × Nat)) (σ : Sg) (x w : W) (st2 : List Cell) : SR := match w with
  | .r j => match st2[j]? with
    | some (.ins c l) => match cs.lookup c with
      | some i => if i ≤ l.length then .ok .nx σ (st2.set j (.ins c (if i < l.length then l.set i x else l ++ [x]))) else .no
      | none => .no
    | _ => .no
  | _ => .no
def sfK1 (cs : List (Nat × Nat)) (σ : Sg) (x w : W) (st3 : List Cell) : SR := setFR cs σ x w st3
@[simp] theorem sfK1_e (cs : List (Nat × Nat)) (x w : W) : sfK1 cs σ x w st = setFR cs σ x w st := rfl
def sfK (cs : List (Nat × Nat)) (o : EM) (σ : Sg) (x : W) (st3 : List Cell) : SR := (o σ st3).to σ (sfK1 cs σ x)
@[simp] theorem sfK_e (cs : List (Nat × Nat)) (o : EM) (x : W) : sfK cs o σ x st = (o σ st).to σ (sfK1 cs σ x) := rfl
@[simp] theorem sSetF_e (cs : List (Nat × Nat)) (o m : EM) : sSetF cs o m σ st = (m σ st).to σ (sfK cs o σ) := rfl
@[simp] theorem setFR_0 (c i : Nat) (x : W) (l : List W) (r : List Cell) : setFR [(c, i)] σ x (.r 0) (.ins c l :: r) = if i ≤ l.length then .ok .nx σ (.ins c (if i < l.length then l.set i x else l ++ [x]) :: r) else .no := by
  unfold setFR; simp
@[simp] theorem fldR_obj (c i : Nat) (l : List P) : fldR [(c, i)] (.p (.obj c l)) st = varF (l[i]?.map fun x => some (.p x)) st := by
  unfold fldR varF; simp only [List.lookup_cons, beq_self_eq_true]
  cases l[i]? <;> rfl
@[simp] theorem fldR_0 (c i : Nat) (l : List W) (r : List Cell) : fldR [(c, i)] (.r 0) (.ins c l :: r) = varF (l[i]?.map some) (.ins c l :: r) := by
  unfold fldR varF; simp only [List.getElem?_cons_zero, List.lookup_cons, beq_self_eq_true]
  cases l[i]? <;> rfl
def fmtR (w : W) (st1 : List Cell) : Res W := match w with
  | .p (.str y) => if y.length ≤ 1000000 then .ok (.p (.str y)) st1 else .no
  | .p (.int i) => if i.natAbs.log2 < 1920 then .ok (.p (.str (toString i))) st1 else .no
  | _ => .no
@[simp] theorem fmtR_str (y : Str) : fmtR (.p (.str y)) st = if y.length ≤ 1000000 then .ok (.p (.str y)) st else .no := rfl
@[simp] theorem fmtR_int (i : Int) : fmtR (.p (.int i)) st = if i.natAbs.log2 < 1920 then .ok (.p (.str (toString i))) st else .no := rfl
@[simp] theorem mFmt_e (a : EM) : mFmt a σ st = (a σ st).bind fmtR := rfl
@[simp] theorem jsF_nil (acc : Str) : jsF [] acc σ st = .ok (.p (.str acc)) st := rfl
def jsK (ms : List EM) (acc : Str) (σ : Sg) (w : W) (st1 : List Cell) : Res W := match w with
  | .p (.str y) => if (acc ++ y).length ≤ 1000000 then jsF ms (acc ++ y) σ st1 else .no
  | _ => .no
@[simp] theorem jsK_e (ms : List EM) (acc y : Str) : jsK ms acc σ (.p (.str y)) st = if (acc ++ y).length ≤ 1000000 then jsF ms (acc ++ y) σ st else .no := rfl
@[simp] theorem jsF_cons (m : EM) (ms : List EM) (acc : Str) : jsF (m :: ms) acc σ st = (m σ st).bind (jsK ms acc σ) := rfl
def isiR (T : String) (o : Option String) (st : List Cell) : Res W := match o with
  | some t => .ok (.p (.bl (kitTab t T))) st
  | none => .no
@[simp] theorem isiR_e (T t : String) : isiR T (some t) st = .ok (.p (.bl (kitTab t T))) st := rfl
def isiK (T : String) (w : W) (st1 : List Cell) : Res W := isiR T (tyName st1 w) st1
@[simp] theorem isiK_e (T : String) (w : W) : isiK T w st = isiR T (tyName st w) st := rfl
@[simp] theorem mIsi_e (T : String) (a : EM) : mIsi T a σ st = (a σ st).bind (isiK T) := rfl
@[simp] theorem tyName_non : tyName st (.p .non) = some "NoneType" := rfl
@[simp] theorem tyName_bl (b : Bool) : tyName st (.p (.bl b)) = some "bool" := rfl
@[simp] theorem tyName_int (b : Int) : tyName st (.p (.int b)) = some "int" := rfl
@[simp] theorem tyName_str (b : Str) : tyName st (.p (.str b)) = some "str" := rfl
@[simp] theorem tyName_tup (b : List P) : tyName st (.p (.tup b)) = some "tuple" := rfl
@[simp] theorem tyName_lst (b : List P) : tyName st (.p (.lst b)) = some "list" := rfl
@[simp] theorem tyName_dk (k : List Key) (b : List P) : tyName st (.p (.dk k b)) = some "dict" := rfl
@[simp] theorem kitTab_e (t T : String) : kitTab t T = (decide (t = T) || (decide (t = "bool") && decide (T = "int"))) := rfl
def inTR (kvs : List (Str × Str)) (neg : Bool) (w : W) (st1 : List Cell) : Res W := match w with
  | .p (.str z) => .ok (.p (.bl (if neg = true then !(kvs.lookup z).isSome else (kvs.lookup z).isSome))) st1
  | _ => .no
@[simp] theorem inTR_e (kvs : List (Str × Str)) (neg : Bool) (z : Str) : inTR kvs neg (.p (.str z)) st = .ok (.p (.bl (if neg = true then !(kvs.lookup z).isSome else (kvs.lookup z).isSome))) st := rfl
@[simp] theorem mInT_e (kvs : List (Str × Str)) (neg : Bool) (a : EM) : mInT kvs neg a σ st = (a σ st).bind (inTR kvs neg) := rfl
def getTR (o : Option Str) (st1 : List Cell) : Res W := match o with
    | some y => .ok (.p (.str y)) st1
    | none => .no
@[simp] theorem getTR_e (y : Str) : getTR (some y) st = .ok (.p (.str y)) st := rfl
def getTW (kvs : List (Str × Str)) (w : W) (st1 : List Cell) : Res W := match w with
  | .p (.str z) => getTR (kvs.lookup z) st1
  | _ => .no
@[simp] theorem getTW_e (kvs : List (Str × Str)) (z : Str) : getTW kvs (.p (.str z)) st = getTR (kvs.lookup z) st := rfl
@[simp] theorem mGetT_e (kvs : List (Str × Str)) (a : EM) : mGetT kvs a σ st = (a σ st).bind (getTW kvs) := by
  unfold mGetT; rfl
def bmR (ok : Bool) (f : List W → List Cell → Res W) (r : Res (List W)) : Res W := if ok = true then r.bind f else .no
@[simp] theorem bmR_e (f : List W → List Cell → Res W) (r : Res (List W)) : bmR true f r = r.bind f := rfl
def bmK (T : String) (f : W → List W → List Cell → Res W) (a : AM) (σ : Sg) (w : W) (st1 : List Cell) : Res W := bmR (decide (tyW st1 w = some T)) (f w) (a σ st1)
@[simp] theorem bmK_e (T : String) (f : W → List W → List Cell → Res W) (a : AM) (w : W) : bmK T f a σ w st = bmR (decide (tyW st w = some T)) (f w) (a σ st) := rfl
@[simp] theorem mBm_e (T : String) (f : W → List W → List Cell → Res W) (o : EM) (a : AM) : mBm T f o a σ st = (o σ st).bind (bmK T f a σ) := by
  unfold mBm
  congr 1; funext w st1
  unfold bmK bmR
  by_cases h : tyW st1 w = some T
  · simp only [h, if_true, decide_true]
  · simp only [h, if_false, decide_false]; rfl
end
end YZ
namespace YZ
open Y PySem PySem.Spec PyProof.Rows L2
section
variable {α β : Type} {st st1 : List Cell} {σ : Sg}
@[simp] theorem vLt_e (i j : Int) : vLt (.p (.int i)) (.p (.int j)) st = .ok (.p (.bl (decide (i < j)))) st := rfl
@[simp] theorem vLe_e (i j : Int) : vLe (.p (.int i)) (.p (.int j)) st = .ok (.p (.bl (decide (i ≤ j)))) st := rfl
@[simp] theorem vGt_e (i j : Int) : vGt (.p (.int i)) (.p (.int j)) st = .ok (.p (.bl (decide (j < i)))) st := rfl
@[simp] theorem vGe_e (i j : Int) : vGe (.p (.int i)) (.p (.int j)) st = .ok (.p (.bl (decide (j ≤ i)))) st := rfl
@[simp] theorem vSub_e (i j : Int) : vSub (.p (.int i)) (.p (.int j)) st = .ok (.p (.int (i - j))) st := rfl
@[simp] theorem vAdd_e (i j : Int) : vAdd (.p (.int i)) (.p (.int j)) st = .ok (.p (.int (i + j))) st := rfl
@[simp] theorem vIadd_e (i j : Int) : vIadd (.p (.int i)) (.p (.int j)) st = .ok (.p (.int (i + j))) st := rfl
@[simp] theorem vMulI_e (i j : Int) : vMulI (.p (.int i)) (.p (.int j)) st = if mulOk i j = true then .ok (.p (.int (i * j))) st else .no := rfl
@[simp] theorem vFdv_e (i j : Int) : vFdv (.p (.int i)) (.p (.int j)) st = if 0 < j ∧ j.natAbs.log2 < 9000 then .ok (.p (.int (i / j))) st else .no := by
  unfold vFdv vI2; simp
@[simp] theorem vMod_e (i j : Int) : vMod (.p (.int i)) (.p (.int j)) st = if 0 < j then .ok (.p (.int (i % j))) st else .no := by
  unfold vMod vI2; simp
@[simp] theorem vPow_e (i j : Int) : vPow (.p (.int i)) (.p (.int j)) st = if 0 ≤ j ∧ j ≤ 1000 ∧ i.natAbs < 1000 then .ok (.p (.int (i ^ j.toNat))) st else .no := by
  unfold vPow vI2; simp
def Sm (i : Int) : Prop := i.natAbs < 2 ^ 200000
theorem log2_lt {n k : Nat} (h : n < 2 ^ k) (hk : 0 < k) : n.log2 < k := by
  rcases Nat.eq_zero_or_pos n with rfl | hn
  · simpa using hk
  · exact (Nat.log2_lt (by omega)).mpr h
theorem mulOk_of {i j : Int} (h : Sm i) (h2 : Sm j) : mulOk i j = true := by
  unfold mulOk
  have a := log2_lt h (by decide)
  have b := log2_lt h2 (by decide)
  exact decide_eq_true (by omega)
theorem pow_le_big {k : Nat} (h : k ≤ 200000) : 2 ^ k ≤ 2 ^ 200000 := Nat.pow_le_pow_right (by decide) h
theorem Sm.lt {i : Int} (k : Nat) (h : i.natAbs < 2 ^ k) (hk : k ≤ 200000) : Sm i := Nat.lt_of_lt_of_le h (pow_le_big hk)
theorem two64 : (2 : Nat) ^ 64 = 18446744073709551616 := rfl
theorem Sm.small {i : Int} (h : i.natAbs < 18446744073709551616) : Sm i := Sm.lt 64 (by rw [two64]; exact h) (by decide)
theorem atI_nat {l : List α} {i : Int} (h0 : 0 ≤ i) : L2.atI l i = l[i.toNat]? := by
  unfold L2.atI L2.ixN
  rw [if_pos h0]
  by_cases h : i < l.length
  · rw [if_pos h]; rfl
  · rw [if_neg h, List.getElem?_eq_none (by omega)]; rfl
@[simp] theorem atI_lit {l : List α} (n : Nat) : L2.atI l (no_index (OfNat.ofNat n) : Int) = l[(OfNat.ofNat n : Nat)]? := by
  rw [atI_nat (by exact Int.natCast_nonneg n)]; rfl
@[simp] theorem atI_cast {l : List α} (n : Nat) : L2.atI l (n : Int) = l[n]? := by
  rw [atI_nat (Int.natCast_nonneg n)]; rfl
theorem atI_map {f : α → β} {l : List α} {i : Int} : L2.atI (l.map f) i = (L2.atI l i).map f := by
  unfold L2.atI
  rw [List.length_map]
  cases L2.ixN l.length i with
  | none => rfl
  | some j => show (l.map f)[j]? = _; rw [List.getElem?_map]; rfl
@[simp] theorem ixN_lit (n j : Nat) : L2.ixN n (no_index (OfNat.ofNat j) : Int) = if (OfNat.ofNat j : Nat) < n then some (OfNat.ofNat j : Nat) else none := by
  show L2.ixN n ((j : Nat) : Int) = if j < n then some j else none
  unfold L2.ixN
  rw [if_pos (by omega)]
  by_cases h : j < n
  · rw [if_pos (by omega), if_pos h]; simp
  · rw [if_neg (by omega), if_neg h]
def ixP (o : Option P) (st : List Cell) : Res W := match o with
  | some z => .ok (.p z) st
  | none => .no
@[simp] theorem ixP_e (z : P) : ixP (some z) st = .ok (.p z) st := rfl
def ixW (o : Option W) (st : List Cell) : Res W := match o with
  | some z => .ok z st
  | none => .no
@[simp] theorem ixW_e (z : W) : ixW (some z) st = .ok z st := rfl
@[simp] theorem vIx_tup (l : List P) (i : Int) : vIx (.p (.tup l)) (.p (.int i)) st = ixP (L2.atI l i) st := rfl
@[simp] theorem vIx_lst (l : List P) (i : Int) : vIx (.p (.lst l)) (.p (.int i)) st = ixP (L2.atI l i) st := by
  unfold vIx
  show (match lstOf st (.p (.lst l)) with | some l => (match L2.atI l i with | some z => Res.ok z st | none => .no) | none => .no) = _
  unfold lstOf
  show (match L2.atI (l.map W.p) i with | some z => Res.ok z st | none => .no) = _
  rw [atI_map]
  cases L2.atI l i <;> rfl
def ixC (i : Int) (c : Option Cell) (st : List Cell) : Res W := match c with
  | some (.lst l) => ixW (L2.atI l i) st
  | _ => .no
@[simp] theorem ixC_e (i : Int) (l : List W) : ixC i (some (.lst l)) st = ixW (L2.atI l i) st := rfl
@[simp] theorem vIx_r (j : Nat) (i : Int) : vIx (.r j) (.p (.int i)) st = ixC i st[j]? st := by
  unfold vIx ixC lstOf
  dsimp only
  cases st[j]? with
  | none => rfl
  | some c => cases c <;> rfl
@[simp] theorem vIx_str (s : Str) (i : Int) : vIx (.p (.str s)) (.p (.int i)) st = if s.length ≤ 1000000 then ixP ((L2.atI s.cps.toList i).map fun c => .str ⟨#[c]⟩) st else .no := by
  unfold vIx
  dsimp only
  by_cases h : s.length ≤ 1000000
  · rw [if_pos h, if_pos (show s.length ≤ LIM from h)]
    cases L2.atI s.cps.toList i <;> rfl
  · rw [if_neg h, if_neg (show ¬ s.length ≤ LIM from h)]
@[simp] theorem vLen_tup (l : List P) : vLen [.p (.tup l)] st = .ok (.p (.int l.length)) st := rfl
@[simp] theorem vLen_lst (l : List P) : vLen [.p (.lst l)] st = .ok (.p (.int l.length)) st := by
  unfold vLen lstOf; simp
@[simp] theorem vLen_str (s : Str) : vLen [.p (.str s)] st = if s.length ≤ 1000000 then .ok (.p (.int s.length)) st else .no := rfl
@[simp] theorem vLen_dk (ks : List Key) (l : List P) : vLen [.p (.dk ks l)] st = .ok (.p (.int ks.length)) st := rfl
def lenC (c : Option Cell) (st : List Cell) : Res W := match c with
  | some (.lst l) => .ok (.p (.int l.length)) st
  | some (.dk ks _) => .ok (.p (.int ks.length)) st
  | _ => .no
@[simp] theorem lenC_e (l : List W) : lenC (some (.lst l)) st = .ok (.p (.int l.length)) st := rfl
@[simp] theorem vLen_r (i : Nat) : vLen [.r i] st = lenC st[i]? st := by
  unfold vLen lenC lstOf
  dsimp only
  cases st[i]? with
  | none => rfl
  | some c => cases c <;> rfl
theorem cut_from {l : List α} {i : Int} (h : 0 ≤ i) : cutL l (some i) none = l.drop i.toNat := by
  obtain ⟨n, rfl⟩ := Int.eq_ofNat_of_zero_le h
  unfold cutL
  rw [HT.sIx_nat, HT.sIx_none, List.take_of_length_le (by simp)]
  rcases Nat.le_total n l.length with h | h
  · rw [Nat.min_eq_left h]; rfl
  · rw [Nat.min_eq_right h, List.drop_of_length_le (Nat.le_refl _), List.drop_of_length_le (by simpa using h)]
theorem cut_to {l : List α} {i : Int} (h : 0 ≤ i) : cutL l none (some i) = l.take i.toNat := by
  obtain ⟨n, rfl⟩ := Int.eq_ofNat_of_zero_le h
  unfold cutL
  rw [HT.sIx_nat, HT.sIx_none, List.drop_zero, Nat.sub_zero]
  rcases Nat.le_total n l.length with h | h
  · rw [Nat.min_eq_left h]; rfl
  · rw [Nat.min_eq_right h, List.take_of_length_le (Nat.le_refl _), List.take_of_length_le (by simpa using h)]
@[simp] theorem cut_from_lit {l : List α} (n : Nat) : cutL l (some (no_index (OfNat.ofNat n) : Int)) none = l.drop (OfNat.ofNat n : Nat) := by
  rw [cut_from (by exact Int.natCast_nonneg n)]; rfl
@[simp] theorem cut_to_lit {l : List α} (n : Nat) : cutL l none (some (no_index (OfNat.ofNat n) : Int)) = l.take (OfNat.ofNat n : Nat) := by
  rw [cut_to (by exact Int.natCast_nonneg n)]; rfl
@[simp] theorem vSl_tup (l : List P) (lo hi : Option Int) : vSl (.p (.tup l)) lo hi st = .ok (.p (.tup (cutL l lo hi))) st := rfl
@[simp] theorem vSl_lst (l : List P) (lo hi : Option Int) : vSl (.p (.lst l)) lo hi st = .ok (.p (.lst (cutL l lo hi))) st := rfl
@[simp] theorem vSl_scr (l : List Int) (lo hi : Option Int) : vSl (.p (.scr l)) lo hi st = .ok (.p (.lst ((cutL l lo hi).map .int))) st := rfl
@[simp] theorem vSl_str (z : Str) (lo hi : Option Int) : vSl (.p (.str z)) lo hi st = if z.length ≤ 1000000 then .ok (.p (.str (cutS z lo hi))) st else .no := rfl
@[simp] theorem pures_mapC {α : Type} (g : α → P) (l : List α) : pures (l.map (W.p ∘ g)) = some (l.map g) := by rw [← List.map_map, pures_mapS]
@[simp] theorem pures_mapL {α : Type} (g : α → P) (l : List α) : pures (l.map fun x => W.p (g x)) = some (l.map g) := pures_mapC g l
@[simp] theorem unC_p (x : P) : unC st (.p x) = some x := rfl
@[simp] theorem seqP_lst (l : List P) : seqP st (.p (.lst l)) = some l := rfl
@[simp] theorem seqP_tup (l : List P) : seqP st (.p (.tup l)) = some l := rfl
@[simp] theorem listOf_lst (l : List P) : Y.listOf st (.p (.lst l)) = some l := rfl
def seqC (c : Option Cell) : Option (List P) := match c with
  | some (.lst l) => pures l
  | _ => none
@[simp] theorem seqC_e (l : List W) : seqC (some (.lst l)) = pures l := rfl
@[simp] theorem seqP_r (i : Nat) : seqP st (.r i) = seqC st[i]? := by
  unfold seqP seqC unC
  dsimp only
  cases st[i]? with
  | none => rfl
  | some c => cases c with
    | lst l => simp only; cases pures l <;> rfl
    | _ => rfl
@[simp] theorem listOf_r (i : Nat) : Y.listOf st (.r i) = seqC st[i]? := by
  unfold Y.listOf seqC unC
  dsimp only
  cases st[i]? with
  | none => rfl
  | some c => cases c with
    | lst l => simp only; cases pures l <;> rfl
    | _ => rfl
@[simp] theorem intsOf_nil : intsOf [] = some [] := rfl
@[simp] theorem intsOf_cons (i : Int) (l : List P) : intsOf (.int i :: l) = (intsOf l).map (i :: ·) := by
  rw [intsOf]; cases intsOf l <;> rfl
@[simp] theorem intsOf_mapB {α : Type} (l : List α) (f : α → Int) : intsOf (l.map fun x => P.int (f x)) = some (l.map f) := by
  have := intsOf_map (l.map f)
  rwa [List.map_map] at this
@[simp] theorem intsOf_mapC {α : Type} (l : List α) (f : α → Int) : intsOf (l.map (P.int ∘ f)) = some (l.map f) := intsOf_mapB l f
@[simp] theorem intsOf_mapS (l : List Int) : intsOf (l.map P.int) = some l := intsOf_map l
@[simp] theorem trusF_nil : trusF [] = some [] := rfl
theorem trusF_map (l : List Bool) : trusF (l.map P.bl) = some l := by
  induction l with
  | nil => rfl
  | cons b l ih => rw [List.map_cons, trusF, ih]; rfl
@[simp] theorem trusF_mapB {α : Type} (l : List α) (f : α → Bool) : trusF (l.map fun x => P.bl (f x)) = some (l.map f) := by
  have := trusF_map (l.map f)
  rwa [List.map_map] at this
@[simp] theorem trusF_mapC {α : Type} (l : List α) (f : α → Bool) : trusF (l.map (P.bl ∘ f)) = some (l.map f) := trusF_mapB l f
@[simp] theorem trusF_bl (b : Bool) (l : List P) : trusF (.bl b :: l) = (trusF l).map (b :: ·) := by
  rw [trusF]; unfold truF; simp only; cases trusF l <;> rfl
@[simp] theorem trusF_int (b : Int) (l : List P) : trusF (.int b :: l) = (trusF l).map ((b != 0) :: ·) := by
  rw [trusF]; unfold truF; simp only; cases trusF l <;> rfl
def sumR (o : Option (List Int)) (st : List Cell) : Res W := match o with
  | some l => .ok (.p (.int l.sum)) st
  | none => .no
@[simp] theorem sumR_e (l : List Int) : sumR (some l) st = .ok (.p (.int l.sum)) st := rfl
@[simp] theorem vSum_e (w : W) : vSum [w] st = sumR ((Y.listOf st w).bind intsOf) st := by unfold vSum sumR; rfl
def maxR (o : Option (List Int)) (st : List Cell) : Res W := match o with
  | some l => if 0 < l.length then .ok (.p (.int (maxI l))) st else .no
  | none => .no
@[simp] theorem maxR_e (l : List Int) : maxR (some l) st = if 0 < l.length then .ok (.p (.int (maxI l))) st else .no := rfl
@[simp] theorem vMax_e (w : W) : vMax [w] st = maxR ((Y.listOf st w).bind intsOf) st := by unfold vMax maxR; rfl
@[simp] theorem vSumS_e (w : W) : vSumS [w] st = sumR ((seqP st w).bind intsOf) st := by unfold vSumS sumR; rfl
@[simp] theorem vMaxS_e (w : W) : vMaxS [w] st = maxR ((seqP st w).bind intsOf) st := by unfold vMaxS maxR; rfl
@[simp] theorem vMaxS_2 (i j : Int) : vMaxS [.p (.int i), .p (.int j)] st = .ok (.p (.int (if j > i then j else i))) st := rfl
@[simp] theorem vMax_2 (i j : Int) : vMax [.p (.int i), .p (.int j)] st = .ok (.p (.int (if j > i then j else i))) st := rfl
@[simp] theorem vMin_2 (i j : Int) : vMin [.p (.int i), .p (.int j)] st = .ok (.p (.int (if j < i then j else i))) st := rfl
def anyR (f : List Bool → Bool) (o : Option (List Bool)) (st : List Cell) : Res W := match o with
  | some bs => .ok (.p (.bl (f bs))) st
  | none => .no
@[simp] theorem anyR_e (f : List Bool → Bool) (bs : List Bool) : anyR f (some bs) st = .ok (.p (.bl (f bs))) st := rfl
@[simp] theorem vAnyG_e (f : List Bool → Bool) (w : W) : vAnyG f [w] st = anyR f ((seqP st w).bind trusF) st := by unfold vAnyG anyR; rfl
@[simp] theorem vInt_int (i : Int) : vInt [.p (.int i)] st = .ok (.p (.int i)) st := rfl
@[simp] theorem vInt_bl (k : Bool) : vInt [.p (.bl k)] st = .ok (.p (.int (if k then 1 else 0))) st := rfl
@[simp] theorem vAbs_e (i : Int) : vAbs [.p (.int i)] st = .ok (.p (.int (if i < 0 then -i else i))) st := rfl
@[simp] theorem vStr_int (i : Int) : vStr [.p (.int i)] st = if i.natAbs.log2 < 1920 then .ok (.p (.str (toString i))) st else .no := rfl
@[simp] theorem vTupOf_tup (l : List P) : vTupOf [.p (.tup l)] st = .ok (.p (.tup l)) st := rfl
@[simp] theorem vTupOf_lst (l : List P) : vTupOf [.p (.lst l)] st = .ok (.p (.tup l)) st := rfl
def tupC (o : Option (List P)) (st : List Cell) : Res W := match o with
  | some l => .ok (.p (.tup l)) st
  | none => .no
@[simp] theorem tupC_e (l : List P) : tupC (some l) st = .ok (.p (.tup l)) st := rfl
@[simp] theorem vTupOf_r (i : Nat) : vTupOf [.r i] st = tupC (seqC st[i]?) st := by
  rw [← listOf_r]; unfold vTupOf tupC; rfl
def lstR (o : Option (List P)) (st : List Cell) : Res W := match o with
  | some l => .ok (.p (.lst l)) st
  | none => .no
@[simp] theorem lstR_e (l : List P) : lstR (some l) st = .ok (.p (.lst l)) st := rfl
@[simp] theorem vLstOf_e (w : W) : vLstOf [w] st = lstR (seqP st w) st := by unfold vLstOf lstR; rfl
def lstCR (o : Option (List P)) (st : List Cell) : Res W := match o with
  | some l => .ok (.r st.length) (st ++ [.lst (l.map .p)])
  | none => .no
@[simp] theorem lstCR_e (l : List P) : lstCR (some l) st = .ok (.r st.length) (st ++ [.lst (l.map .p)]) := rfl
@[simp] theorem vLstOfC_e (w : W) : vLstOfC [w] st = lstCR (seqP st w) st := by unfold vLstOfC lstCR; rfl
def frzR (j : Nat) (c : Option Cell) (st : List Cell) : Res W := match c with
  | some (.lst l) => match pures l with
    | some m => .ok (.p (.lst m)) (st.set j .dead)
    | none => .no
  | _ => .no
def frzR2 (j : Nat) (o : Option (List P)) (st : List Cell) : Res W := match o with
    | some m => .ok (.p (.lst m)) (st.set j .dead)
    | none => .no
@[simp] theorem frzR2_e (j : Nat) (m : List P) : frzR2 j (some m) st = .ok (.p (.lst m)) (st.set j .dead) := rfl
@[simp] theorem frzR_e (j : Nat) (l : List W) : frzR j (some (.lst l)) st = frzR2 j (pures l) st := rfl
def frzW (w : W) (st1 : List Cell) : Res W := match w with
  | .p x => .ok (.p x) st1
  | .r i => frzR i st1[i]? st1
@[simp] theorem frzW_p (x : P) : frzW (.p x) st = .ok (.p x) st := rfl
@[simp] theorem frzW_r (i : Nat) : frzW (.r i) st = frzR i st[i]? st := rfl
@[simp] theorem mFrz_e (a : EM) : mFrz a σ st = (a σ st).bind frzW := by
  unfold mFrz frzW frzR; rfl
def tyC (c : Option Cell) : Option String := match c with
    | some (.lst _) => some "list"
    | some (.dk _ _) => some "dict"
    | _ => none
@[simp] theorem tyC_e (l : List W) : tyC (some (.lst l)) = some "list" := rfl
@[simp] theorem tyW_r (i : Nat) : tyW st (.r i) = tyC st[i]? := rfl
@[simp] theorem tyW_str (z : Str) : tyW st (.p (.str z)) = some "str" := rfl
def apC (i : Nat) (x : W) (c : Option Cell) (st : List Cell) : Res W := match c with
    | some (.lst l) => if l.length < 1000000 then .ok (.p .non) (st.set i (.lst (l ++ [x]))) else .no
    | _ => .no
@[simp] theorem apC_e (i : Nat) (x : W) (l : List W) : apC i x (some (.lst l)) st = if l.length < 1000000 then .ok (.p .non) (st.set i (.lst (l ++ [x]))) else .no := rfl
@[simp] theorem vAppend_e (i : Nat) (x : W) : vAppend (.r i) [x] st = apC i x st[i]? st := by unfold vAppend apC; rfl
def insC (i : Nat) (k : Int) (x : W) (c : Option Cell) (st : List Cell) : Res W := match c with
    | some (.lst l) => if l.length < 1000000 ∧ 0 ≤ k ∧ k ≤ 1000000 then .ok (.p .non) (st.set i (.lst (l.take k.toNat ++ [x] ++ l.drop k.toNat))) else .no
    | _ => .no
@[simp] theorem insC_e (i : Nat) (k : Int) (x : W) (l : List W) : insC i k x (some (.lst l)) st = if l.length < 1000000 ∧ 0 ≤ k ∧ k ≤ 1000000 then .ok (.p .non) (st.set i (.lst (l.take k.toNat ++ [x] ++ l.drop k.toNat))) else .no := rfl
@[simp] theorem vInsert_e (i : Nat) (k : Int) (x : W) : vInsert (.r i) [.p (.int k), x] st = insC i k x st[i]? st := by unfold vInsert insC; rfl
@[simp] theorem SR.nox_ok (f : Fl) : (SR.ok f σ st).nox = .ok f σ st := rfl
@[simp] theorem SR.nox_no : SR.no.nox = .no := rfl
@[simp] theorem sTry0_e (b : SMm) : sTry0 b σ st = (b σ st).nox := rfl
def kwF (F : FM) (ix : List Nat) (n : Nat) (us ws : List W) (st2 : List Cell) : Res W := if ws.length = n then (callF F (gI ix us ws) st2).nox else .no
@[simp] theorem kwF_e (F : FM) (ix : List Nat) (n : Nat) (us ws : List W) : kwF F ix n us ws st = if ws.length = n then (callF F (gI ix us ws) st).nox else .no := rfl
@[simp] theorem mCallKw_e (F : FM) (ix : List Nat) (n : Nat) (a : AM) : mCallKw F ix n a σ st = (a σ st).bind (kwF F ix n []) := rfl
def kwM (c n : Nat) (F : FM) (ix : List Nat) (nk : Nat) (ws : List W) (st1 : List Cell) : Res W := if ws.length = nk then makeF c n F (gI ix [] ws) st1 else .no
@[simp] theorem kwM_e (c n : Nat) (F : FM) (ix : List Nat) (nk : Nat) (ws : List W) : kwM c n F ix nk ws st = if ws.length = nk then makeF c n F (gI ix [] ws) st else .no := rfl
@[simp] theorem mMakeKw_e (c n : Nat) (F : FM) (ix : List Nat) (nk : Nat) (a : AM) : mMakeKw c n F ix nk a σ st = (a σ st).bind (kwM c n F ix nk) := rfl
def kwR (ok : Bool) (F : FM) (ix : List Nat) (n : Nat) (w : W) (r : Res (List W)) : Res W := if ok = true then r.bind (kwF F ix n [w]) else .no
@[simp] theorem kwR_e (F : FM) (ix : List Nat) (n : Nat) (w : W) (r : Res (List W)) : kwR true F ix n w r = r.bind (kwF F ix n [w]) := rfl
def kwK (c : Nat) (F : FM) (ix : List Nat) (n : Nat) (a : AM) (σ : Sg) (w : W) (st1 : List Cell) : Res W := kwR (decide (clsOf st1 w = some c)) F ix n w (a σ st1)
@[simp] theorem kwK_e (c : Nat) (F : FM) (ix : List Nat) (n : Nat) (a : AM) (w : W) : kwK c F ix n a σ w st = kwR (decide (clsOf st w = some c)) F ix n w (a σ st) := rfl
@[simp] theorem mMethKw_e (c : Nat) (F : FM) (ix : List Nat) (n : Nat) (o : EM) (a : AM) : mMethKw c F ix n o a σ st = (o σ st).bind (kwK c F ix n a σ) := by
  unfold mMethKw
  congr 1; funext w st1
  unfold kwK kwR
  by_cases h : clsOf st1 w = some c
  · simp only [h, if_true, decide_true]; rfl
  · simp only [h, if_false, decide_false]; rfl
@[simp] theorem gI_e (ix : List Nat) (us ws : List W) : gI ix us ws = us ++ ix.filterMap fun i => ws[i]? := rfl
@[simp] theorem vEqB_int (n : Bool) (i j : Int) : vEqB n (.p (.int i)) (.p (.int j)) st = .ok (.p (.bl (if n = true then !(i == j) else (i == j)))) st := rfl
@[simp] theorem vEqB_bl (n : Bool) (i j : Bool) : vEqB n (.p (.bl i)) (.p (.bl j)) st = .ok (.p (.bl (if n = true then !(i == j) else (i == j)))) st := rfl
@[simp] theorem vEqB_str (n : Bool) (i j : Str) : vEqB n (.p (.str i)) (.p (.str j)) st = .ok (.p (.bl (if n = true then !(i == j) else (i == j)))) st := rfl
@[simp] theorem vIsN_non (n : Bool) : vIsN n (.p .non) (.p .non) st = .ok (.p (.bl (!n))) st := rfl
@[simp] theorem vIsN_bl (n b : Bool) : vIsN n (.p (.bl b)) (.p .non) st = .ok (.p (.bl n)) st := rfl
@[simp] theorem vIsN_int (n : Bool) (b : Int) : vIsN n (.p (.int b)) (.p .non) st = .ok (.p (.bl n)) st := rfl
@[simp] theorem vIsN_str (n : Bool) (b : Str) : vIsN n (.p (.str b)) (.p .non) st = .ok (.p (.bl n)) st := rfl
@[simp] theorem vIsN_tup (n : Bool) (b : List P) : vIsN n (.p (.tup b)) (.p .non) st = .ok (.p (.bl n)) st := rfl
@[simp] theorem vIsN_lst (n : Bool) (b : List P) : vIsN n (.p (.lst b)) (.p .non) st = .ok (.p (.bl n)) st := rfl
@[simp] theorem vIsN_obj (n : Bool) (c : Nat) (b : List P) : vIsN n (.p (.obj c b)) (.p .non) st = .ok (.p (.bl n)) st := rfl
@[simp] theorem vIsN_r (n : Bool) (i : Nat) : vIsN n (.r i) (.p .non) st = .ok (.p (.bl n)) st := rfl
@[simp] theorem vInB_tup (n : Bool) (x : Str) (l : List P) (h : l.all flatP = true) : vInB n (.p (.str x)) (.p (.tup l)) st = .ok (.p (.bl (if n = true then !inP (.str x) l else inP (.str x) l))) st := by
  unfold vInB
  simp only [seqP_tup]
  rw [if_pos ⟨rfl, h⟩]
@[simp] theorem vInB_lst (n : Bool) (x : Str) (l : List P) (h : l.all flatP = true) : vInB n (.p (.str x)) (.p (.lst l)) st = .ok (.p (.bl (if n = true then !inP (.str x) l else inP (.str x) l))) st := by
  unfold vInB
  simp only [seqP_lst]
  rw [if_pos ⟨rfl, h⟩]
@[simp] theorem flatP_str (s : Str) : flatP (.str s) = true := rfl
@[simp] theorem flatP_int (s : Int) : flatP (.int s) = true := rfl
@[simp] theorem flatP_bl (s : Bool) : flatP (.bl s) = true := rfl
@[simp] theorem flatP_non : flatP .non = true := rfl
@[simp] theorem inP_nil (x : P) : inP x [] = false := rfl
@[simp] theorem inP_cons (x y : P) (l : List P) : inP x (y :: l) = (eqF y x || inP x l) := rfl
@[simp] theorem eqF_str (x y : Str) : eqF (.str x) (.str y) = (x == y) := rfl
@[simp] theorem eqF_int (x y : Int) : eqF (.int x) (.int y) = (x == y) := rfl
@[simp] theorem vAdd_lst (l m : List P) : vAdd (.p (.lst l)) (.p (.lst m)) st = if l.length + m.length ≤ 1000000 then .ok (.p (.lst (l ++ m))) st else .no := rfl
@[simp] theorem vAdd_tup (l m : List P) : vAdd (.p (.tup l)) (.p (.tup m)) st = if l.length + m.length ≤ 1000000 then .ok (.p (.tup (l ++ m))) st else .no := rfl
@[simp] theorem vAdd_str (l m : Str) : vAdd (.p (.str l)) (.p (.str m)) st = if l.length + m.length ≤ 1000000 then .ok (.p (.str (l ++ m))) st else .no := rfl
@[simp] theorem vIadd_str (l m : Str) : vIadd (.p (.str l)) (.p (.str m)) st = if l.length + m.length ≤ 1000000 then .ok (.p (.str (l ++ m))) st else .no := rfl
@[simp] theorem Str.len_append (a b : Str) : (a ++ b).length = a.length + b.length := by
  show (a.cps ++ b.cps).size = _
  rw [Array.size_append]; rfl
@[simp] theorem Str.len_empty : Str.empty.length = 0 := rfl
def okP : Nat → P → Bool
  | _, .non => true
  | _, .bl _ => true
  | _, .int _ => true
  | _, .str s => PyData.strOk s
  | n + 1, .tup l => l.all (okP n)
  | n + 1, .lst l => l.all (okP n)
  | _, _ => false
theorem okP_all {n : Nat} (ih : ∀ x, okP n x = true → ∃ d, toD x = some d ∧ d.canLay0 = true ∧ d.depth ≤ n) : ∀ {l : List P}, l.all (okP n) = true → ∃ ds, toDs l = some ds ∧ PyData.canLayAll0 ds = true ∧ PyData.depthAll ds ≤ n ∧ ds.length = l.length
  | [], _ => ⟨[], rfl, rfl, Nat.zero_le _, rfl⟩
  | x :: l, h => by
    rw [List.all_cons, Bool.and_eq_true] at h
    obtain ⟨d, e1, e2, e3⟩ := ih x h.1
    obtain ⟨ds, f1, f2, f3, f4⟩ := okP_all ih h.2
    refine ⟨d :: ds, by rw [toDs, e1, f1], ?_, ?_, by simp [f4]⟩
    · rw [PyData.canLayAll0, e2, f2]; rfl
    · rw [PyData.depthAll]; exact Nat.max_le.mpr ⟨e3, f3⟩
theorem okP_toD : ∀ (n : Nat) (x : P), okP n x = true → ∃ d, toD x = some d ∧ d.canLay0 = true ∧ d.depth ≤ n
  | n, .non, _ => ⟨.none, by rw [toD], by rw [PyData.canLay0], by rw [PyData.depth]; exact Nat.zero_le _⟩
  | n, .bl b, _ => ⟨.bool b, by rw [toD], by rw [PyData.canLay0], by rw [PyData.depth]; exact Nat.zero_le _⟩
  | n, .int i, _ => ⟨.int i, by rw [toD], by rw [PyData.canLay0], by rw [PyData.depth]; exact Nat.zero_le _⟩
  | n, .str s, h => ⟨.str s, by rw [toD], by
      rw [PyData.canLay0]; cases n <;> (rw [okP] at h; exact h), by rw [PyData.depth]; exact Nat.zero_le _⟩
  | 0, .tup l, h => by rw [okP] at h <;> first | cases h | (intros; contradiction)
  | 0, .lst l, h => by rw [okP] at h <;> first | cases h | (intros; contradiction)
  | n + 1, .tup l, h => by
    rw [okP] at h
    obtain ⟨ds, f1, f2, f3, f4⟩ := okP_all (okP_toD n) h
    refine ⟨.tuple ds, by rw [toD, f1], by rw [PyData.canLay0]; exact f2, ?_⟩
    rw [PyData.depth]; omega
  | n + 1, .lst l, h => by
    rw [okP] at h
    obtain ⟨ds, f1, f2, f3, f4⟩ := okP_all (okP_toD n) h
    refine ⟨.list ds, by rw [toD, f1], by rw [PyData.canLay0]; exact f2, ?_⟩
    rw [PyData.depth]; omega
  | n, .scr _, h => by cases n <;> (rw [okP] at h <;> first | cases h | (intros; contradiction))
  | n, .dk _ _, h => by cases n <;> (rw [okP] at h <;> first | cases h | (intros; contradiction))
  | n, .obj _ _, h => by cases n <;> (rw [okP] at h <;> first | cases h | (intros; contradiction))
  | n, .exn _ _, h => by cases n <;> (rw [okP] at h <;> first | cases h | (intros; contradiction))
  | n, .lam _ _, h => by cases n <;> (rw [okP] at h <;> first | cases h | (intros; contradiction))
  | n, .cls _, h => by cases n <;> (rw [okP] at h <;> first | cases h | (intros; contradiction))
  | n, .fd _ _, h => by cases n <;> (rw [okP] at h <;> first | cases h | (intros; contradiction))
  | n, .fn _ _, h => by cases n <;> (rw [okP] at h <;> first | cases h | (intros; contradiction))
mutual
def pEq : P → P → Bool
  | .non, .non => true
  | .bl a, .bl b => a == b
  | .bl a, .int j => (if a then 1 else 0) == j
  | .int i, .bl b => i == (if b then 1 else 0)
  | .int i, .int j => i == j
  | .str x, .str y => x == y
  | .lst l, .lst m => pEqs l m
  | .tup l, .tup m => pEqs l m
  | _, _ => false
def pEqs : List P → List P → Bool
  | [], [] => true
  | x :: l, y :: m => pEq x y && pEqs l m
  | _, _ => false
end
@[simp] theorem okP_non (n : Nat) : okP n .non = true := by cases n <;> rfl
@[simp] theorem okP_bl (n : Nat) (b : Bool) : okP n (.bl b) = true := by cases n <;> rfl
@[simp] theorem okP_int (n : Nat) (b : Int) : okP n (.int b) = true := by cases n <;> rfl
@[simp] theorem okP_str (n : Nat) (b : Str) : okP n (.str b) = PyData.strOk b := by cases n <;> rfl
@[simp] theorem okP_tup {n : Nat} (h : 0 < n) (l : List P) : okP n (.tup l) = l.all (okP (n - 1)) := by
  cases n with
  | zero => omega
  | succ n => rfl
@[simp] theorem okP_lst {n : Nat} (h : 0 < n) (l : List P) : okP n (.lst l) = l.all (okP (n - 1)) := by
  cases n with
  | zero => omega
  | succ n => rfl
@[simp] theorem strOk_ofS (a : String) : PyData.strOk (Str.ofString a) = true := by
  rw [Str.ofString_eq_toList]
  unfold PyData.strOk
  simp only [List.all_toArray, List.all_map, List.all_eq_true]
  intro c _
  have h := c.valid
  simp only [Function.comp_apply, decide_eq_true_eq]
  show c.val.toNat < _
  rcases h with h | ⟨_, h⟩
  · have : c.val.toNat < 55296 := h
    omega
  · have : c.val.toNat < 1114112 := h
    omega
@[simp] theorem pEqs_nil : pEqs [] [] = true := by rw [pEqs]
@[simp] theorem pEqs_cons (x y : P) (l m : List P) : pEqs (x :: l) (y :: m) = (pEq x y && pEqs l m) := by rw [pEqs]
@[simp] theorem pEqs_nc (y : P) (m : List P) : pEqs [] (y :: m) = false := by rw [pEqs] <;> simp
@[simp] theorem pEqs_cn (y : P) (m : List P) : pEqs (y :: m) [] = false := by rw [pEqs] <;> simp
@[simp] theorem pEq_int (i j : Int) : pEq (.int i) (.int j) = (i == j) := by rw [pEq]
@[simp] theorem pEq_str (i j : Str) : pEq (.str i) (.str j) = (i == j) := by rw [pEq]
@[simp] theorem pEq_bl (i j : Bool) : pEq (.bl i) (.bl j) = (i == j) := by rw [pEq]
@[simp] theorem pEq_tup (i j : List P) : pEq (.tup i) (.tup j) = pEqs i j := by rw [pEq]
@[simp] theorem pEq_lst (i j : List P) : pEq (.lst i) (.lst j) = pEqs i j := by rw [pEq]
theorem okP_shaped {n : Nat} (hn : n ≤ 64) {x : P} (h : okP n x = true) : ∃ d, toD x = some d ∧ SeqAt.shaped d = true := by
  obtain ⟨d, e1, e2, e3⟩ := okP_toD n x h
  exact ⟨d, e1, by unfold SeqAt.shaped; rw [e2, decide_eq_true (Nat.le_trans e3 hn)]; rfl⟩
mutual
theorem pEq_toD : ∀ {x y : P} {d e : PyData}, toD x = some d → toD y = some e → PyData.eqv d e = pEq x y
  | x, y, d, e, hx, hy => by
    cases x with
    | non => rw [toD] at hx; cases hx; cases y <;> simp only [toD] at hy <;> first | (cases hy; rw [PyData.eqv, pEq] <;> simp) | (split at hy <;> cases hy <;> (rw [PyData.eqv, pEq] <;> simp)) | cases hy
    | bl b => rw [toD] at hx; cases hx; cases y <;> simp only [toD] at hy <;> first | (cases hy; rw [PyData.eqv, pEq] <;> simp) | (split at hy <;> cases hy <;> (rw [PyData.eqv, pEq] <;> simp)) | cases hy
    | int i => rw [toD] at hx; cases hx; cases y <;> simp only [toD] at hy <;> first | (cases hy; rw [PyData.eqv, pEq] <;> simp) | (split at hy <;> cases hy <;> (rw [PyData.eqv, pEq] <;> simp)) | cases hy
    | str z => rw [toD] at hx; cases hx; cases y <;> simp only [toD] at hy <;> first | (cases hy; rw [PyData.eqv, pEq] <;> simp) | (split at hy <;> cases hy <;> (rw [PyData.eqv, pEq] <;> simp)) | cases hy
    | tup l =>
      rw [toD] at hx
      split at hx
      · rename_i ds e1
        cases hx
        cases y with
        | tup m =>
          rw [toD] at hy
          split at hy
          · rename_i es e2
            cases hy
            rw [PyData.eqv, pEq, pEqs_toD e1 e2]
          · cases hy
        | lst m => rw [toD] at hy; split at hy <;> cases hy; rw [PyData.eqv, pEq] <;> simp
        | non => rw [toD] at hy; cases hy; rw [PyData.eqv, pEq] <;> simp
        | bl b => rw [toD] at hy; cases hy; rw [PyData.eqv, pEq] <;> simp
        | int b => rw [toD] at hy; cases hy; rw [PyData.eqv, pEq] <;> simp
        | str b => rw [toD] at hy; cases hy; rw [PyData.eqv, pEq] <;> simp
        | scr b => rw [toD] at hy; cases hy
        | dk b c => rw [toD] at hy; cases hy
        | obj b c => rw [toD] at hy; cases hy
        | exn b c => rw [toD] at hy; cases hy
        | lam b c => rw [toD] at hy; cases hy
        | cls b => rw [toD] at hy; cases hy
        | fd _ _ => rw [toD] at hy; cases hy
        | fn _ _ => rw [toD] at hy; cases hy
      · cases hx
    | lst l =>
      rw [toD] at hx
      split at hx
      · rename_i ds e1
        cases hx
        cases y with
        | lst m =>
          rw [toD] at hy
          split at hy
          · rename_i es e2
            cases hy
            rw [PyData.eqv, pEq, pEqs_toD e1 e2]
          · cases hy
        | tup m => rw [toD] at hy; split at hy <;> cases hy; rw [PyData.eqv, pEq] <;> simp
        | non => rw [toD] at hy; cases hy; rw [PyData.eqv, pEq] <;> simp
        | bl b => rw [toD] at hy; cases hy; rw [PyData.eqv, pEq] <;> simp
        | int b => rw [toD] at hy; cases hy; rw [PyData.eqv, pEq] <;> simp
        | str b => rw [toD] at hy; cases hy; rw [PyData.eqv, pEq] <;> simp
        | scr b => rw [toD] at hy; cases hy
        | dk b c => rw [toD] at hy; cases hy
        | obj b c => rw [toD] at hy; cases hy
        | exn b c => rw [toD] at hy; cases hy
        | lam b c => rw [toD] at hy; cases hy
        | cls b => rw [toD] at hy; cases hy
        | fd _ _ => rw [toD] at hy; cases hy
        | fn _ _ => rw [toD] at hy; cases hy
      · cases hx
    | scr _ => rw [toD] at hx; cases hx
    | dk _ _ => rw [toD] at hx; cases hx
    | obj _ _ => rw [toD] at hx; cases hx
    | exn _ _ => rw [toD] at hx; cases hx
    | lam _ _ => rw [toD] at hx; cases hx
    | cls _ => rw [toD] at hx; cases hx
    | fd _ _ => rw [toD] at hx; cases hx
    | fn _ _ => rw [toD] at hx; cases hx
theorem pEqs_toD : ∀ {l m : List P} {ds es : List PyData}, toDs l = some ds → toDs m = some es → PyData.eqvAll ds es = pEqs l m
  | [], [], ds, es, h1, h2 => by rw [toDs] at h1 h2; cases h1; cases h2; rw [PyData.eqvAll, pEqs]
  | [], y :: m, ds, es, h1, h2 => by
    rw [toDs] at h1; rw [toDs] at h2; cases h1
    split at h2
    · cases h2; rw [PyData.eqvAll, pEqs] <;> simp
    · cases h2
  | x :: l, [], ds, es, h1, h2 => by
    rw [toDs] at h1; rw [toDs] at h2; cases h2
    split at h1
    · cases h1; rw [PyData.eqvAll, pEqs] <;> simp
    · cases h1
  | x :: l, y :: m, ds, es, h1, h2 => by
    rw [toDs] at h1; rw [toDs] at h2
    split at h1
    · rename_i d ds' e1 e2
      cases h1
      split at h2
      · rename_i e es' f1 f2
        cases h2
        rw [PyData.eqvAll, pEqs, pEq_toD e1 f1, pEqs_toD e2 f2]
      · cases h2
    · cases h1
end
theorem vEqB_data {n : Bool} {x y : P} (h : okP 64 x = true) (h2 : okP 64 y = true) : vEqB n (.p x) (.p y) st = .ok (.p (.bl (if n = true then !pEq x y else pEq x y))) st := by
  obtain ⟨d, e1, e2⟩ := okP_shaped (Nat.le_refl _) h
  obtain ⟨e, f1, f2⟩ := okP_shaped (Nat.le_refl _) h2
  unfold vEqB
  cases hs : eqW (.p x) (.p y) with
  | some k =>
    have : pEq x y = k := by
      have hs : eqS x y = some k := hs
      cases x <;> cases y <;> first | (unfold eqS at hs; cases hs; done) | (cases hs; rw [pEq] <;> simp)
    rw [this]
  | none =>
    unfold unD
    simp only [unC_p, Option.bind_some, e1, f1]
    rw [if_pos ⟨e2, f2⟩, pEq_toD e1 f1]
def dispR (ks : List Str) (o : Option (List P)) (st1 : List Cell) : Res W := match o with
  | some l => .ok (.p (.dk (ks.map .inr) l)) st1
  | none => .no
@[simp] theorem dispR_e (ks : List Str) (l : List P) : dispR ks (some l) st = .ok (.p (.dk (ks.map .inr) l)) st := rfl
def dispK (ks : List Str) (ws : List W) (st1 : List Cell) : Res W := dispR ks (pures ws) st1
@[simp] theorem dispK_e (ks : List Str) (ws : List W) : dispK ks ws st = dispR ks (pures ws) st := rfl
@[simp] theorem mDisp_e (ks : List Str) (ms : List EM) : mDisp ks ms σ st = (amOf ms σ st).nox.bind (dispK ks) := rfl
@[simp] theorem amOf_nil : amOf [] σ st = .ok [] st := rfl
@[simp] theorem amOf_cons (m : EM) (ms : List EM) : amOf (m :: ms) σ st = (m σ st).bind (consK (amOf ms) σ) := rfl
def dgetP (o : Option P) (st2 : List Cell) : Res W := match o with
  | some z => .ok (.p z) st2
  | none => .no
@[simp] theorem dgetP_e (z : P) : dgetP (some z) st = .ok (.p z) st := rfl
def dgetK2 (w x : W) (st2 : List Cell) : Res W := match w, x with
  | .p (.dk ks l), .p y => dgetP ((keyP y).bind fun k => dkGet ks l k) st2
  | _, _ => .no
@[simp] theorem dgetK2_s (ks : List Key) (l : List P) (z : Str) : dgetK2 (.p (.dk ks l)) (.p (.str z)) st = dgetP (dkGet ks l (.inr z)) st := rfl
@[simp] theorem dgetK2_i (ks : List Key) (l : List P) (z : Int) : dgetK2 (.p (.dk ks l)) (.p (.int z)) st = dgetP (dkGet ks l (.inl z)) st := rfl
def dgetK (a : EM) (σ : Sg) (w : W) (st1 : List Cell) : Res W := (a σ st1).bind (dgetK2 w)
@[simp] theorem dgetK_e (a : EM) (w : W) : dgetK a σ w st = (a σ st).bind (dgetK2 w) := rfl
@[simp] theorem mDGet_e (o a : EM) : mDGet o a σ st = (o σ st).bind (dgetK a σ) := by
  unfold mDGet
  congr 1; funext w st1
  unfold dgetK
  congr 1; funext x st2
  unfold dgetK2
  cases w with
  | r i => rfl
  | p y => cases y <;> cases x <;> try rfl
           simp only
           rename_i ks l y
           cases keyP y with
           | none => rfl
           | some k => simp only [Option.bind_some]; cases dkGet ks l k <;> rfl
@[simp] theorem dkGet_nil (l : List P) (k : Key) : dkGet [] l k = none := rfl
@[simp] theorem dkGet_cons (k0 : Key) (ks : List Key) (x : P) (l : List P) (k : Key) : dkGet (k0 :: ks) (x :: l) k = if k0 = k then some x else dkGet ks l k := by
  unfold dkGet
  rw [List.zip_cons_cons, List.find?_cons]
  by_cases h : k0 = k <;> simp [h]
theorem strsOf_map (l : List Str) : strsOf (l.map P.str) = some l := by
  induction l with
  | nil => rfl
  | cons b l ih => rw [List.map_cons, strsOf, ih]
@[simp] theorem strsOf_nil : strsOf [] = some [] := rfl
@[simp] theorem strsOf_cons (s : Str) (l : List P) : strsOf (.str s :: l) = (strsOf l).map (s :: ·) := by
  rw [strsOf]; cases strsOf l <;> rfl
@[simp] theorem strsOf_mapB {α : Type} (l : List α) (f : α → Str) : strsOf (l.map fun x => P.str (f x)) = some (l.map f) := by
  have := strsOf_map (l.map f)
  rwa [List.map_map] at this
@[simp] theorem strsOf_mapC {α : Type} (l : List α) (f : α → Str) : strsOf (l.map (P.str ∘ f)) = some (l.map f) := strsOf_mapB l f
def joinR (a : Str) (o : Option (List Str)) (st : List Cell) : Res W := match o with
  | some ys => if (ys.map (·.length)).sum + ys.length * a.length ≤ 1000000 then .ok (.p (.str (Txt.join a ys))) st else .no
  | none => .no
@[simp] theorem joinR_e (a : Str) (ys : List Str) : joinR a (some ys) st = if (ys.map (·.length)).sum + ys.length * a.length ≤ 1000000 then .ok (.p (.str (Txt.join a ys))) st else .no := rfl
@[simp] theorem vJoin_e (a : Str) (w : W) : vJoin (.p (.str a)) [w] st = joinR a ((seqP st w).bind strsOf) st := by unfold vJoin joinR; rfl
def forL (t : Tg) (b : SMm) : List W → Sg → List Cell → SR
  | [], σ, st => .ok .nx σ st
  | w :: l, σ, st => match t.put w σ with
    | none => .no
    | some σ1 => match b σ1 st with
        | .ok .nx σ2 st2 => forL t b l σ2 st2
        | .ok .ct σ2 st2 => forL t b l σ2 st2
        | .ok .bk σ2 st2 => .ok .nx σ2 st2
        | r => r
theorem forF_go {l : List W} (get : List Cell → Nat → Option (Option W)) (t : Tg) (b : SMm) (n0 : Nat) (hg : ∀ st i, i ≤ l.length → get st i = some l[i]?) : ∀ (n i : Nat) (σ : Sg) (st : List Cell), i ≤ l.length → l.length - i < n → forF ⟨get, n0⟩ t b n i σ st = forL t b (l.drop i) σ st := by
  intro n
  induction n with
  | zero => intro i σ st hi h; omega
  | succ n ih =>
    intro i σ st hi h
    rw [forF]
    show (match get st i with | none => SR.no | some none => .ok .nx σ st | some (some w) => _) = _
    rw [hg st i hi]
    by_cases hl : i < l.length
    · rw [List.getElem?_eq_getElem hl, List.drop_eq_getElem_cons hl, forL]
      simp only
      cases t.put l[i] σ with
      | none => rfl
      | some σ1 =>
        simp only
        have e : ∀ σ2 st2, forF ⟨get, n0⟩ t b n (i + 1) σ2 st2 = forL t b (l.drop (i + 1)) σ2 st2 := fun σ2 st2 => ih (i + 1) σ2 st2 (by omega) (by omega)
        cases b σ1 st with
        | ok f σ2 st2 => cases f <;> simp only [e]
        | exc _ _ _ => rfl
        | no => rfl
    · rw [List.getElem?_eq_none (by omega), List.drop_of_length_le (by omega), forL]
theorem forF_srcL (l : List W) (t : Tg) (b : SMm) (σ : Sg) (st : List Cell) : forF (srcL l) t b (l.length + 1) 0 σ st = forL t b l σ st := by
  have := forF_go (l := l) (fun _ i => some l[i]?) t b l.length (fun _ _ _ => rfl) (l.length + 1) 0 σ st (by omega) (by omega)
  rw [List.drop_zero] at this
  exact this
theorem forF_srcZ (l : List W) (t : Tg) (b : SMm) (σ : Sg) (st : List Cell) : forF (srcZ l) t b (l.length + 1) 0 σ st = forL t b l σ st := by
  have := forF_go (l := l) (fun _ i => if i ≤ l.length then some l[i]? else none) t b l.length (fun _ i hi => if_pos hi) (l.length + 1) 0 σ st (by omega) (by omega)
  rw [List.drop_zero] at this
  exact this
@[simp] theorem srcL_n (l : List W) : (srcL l).n = l.length := rfl
@[simp] theorem srcZ_n (l : List W) : (srcZ l).n = l.length := rfl
def sforK (t : Tg) (b : SMm) (σ : Sg) (src : Src) (st1 : List Cell) : SR := forF src t b (src.n + 1) 0 σ st1
theorem sforK_e (t : Tg) (b : SMm) (src : Src) : sforK t b σ src st = forF src t b (src.n + 1) 0 σ st := rfl
@[simp] theorem sFor_e (m : IM) (t : Tg) (b : SMm) : sFor m t b σ st = (m σ st).to σ (sforK t b σ) := rfl
def forK (t : Tg) (b : SMm) (l : List W) (r : SR) : SR := match r with
        | .ok .nx σ2 st2 => forL t b l σ2 st2
        | .ok .ct σ2 st2 => forL t b l σ2 st2
        | .ok .bk σ2 st2 => .ok .nx σ2 st2
        | r => r
def forP (t : Tg) (b : SMm) (l : List W) (st : List Cell) (o : Option Sg) : SR := match o with
  | none => .no
  | some σ1 => forK t b l (b σ1 st)
@[simp] theorem forL_nil (t : Tg) (b : SMm) : forL t b [] σ st = .ok .nx σ st := rfl
@[simp] theorem forL_cons (t : Tg) (b : SMm) (w : W) (l : List W) : forL t b (w :: l) σ st = forP t b l st (t.put w σ) := by
  rw [forL]; unfold forP forK; rfl
@[simp] theorem forP_e (t : Tg) (b : SMm) (l : List W) : forP t b l st (some σ) = forK t b l (b σ st) := rfl
@[simp] theorem forK_nx (t : Tg) (b : SMm) (l : List W) : forK t b l (.ok .nx σ st) = forL t b l σ st := rfl
@[simp] theorem forK_ct (t : Tg) (b : SMm) (l : List W) : forK t b l (.ok .ct σ st) = forL t b l σ st := rfl
@[simp] theorem forK_bk (t : Tg) (b : SMm) (l : List W) : forK t b l (.ok .bk σ st) = .ok .nx σ st := rfl
@[simp] theorem forK_rt (t : Tg) (b : SMm) (l : List W) (w : W) : forK t b l (.ok (.rt w) σ st) = .ok (.rt w) σ st := rfl
@[simp] theorem forK_no (t : Tg) (b : SMm) (l : List W) : forK t b l .no = .no := rfl
@[simp] theorem forK_ite (t : Tg) (b : SMm) (l : List W) {c : Prop} [Decidable c] (x y : SR) : forK t b l (if c then x else y) = if c then forK t b l x else forK t b l y := by split <;> rfl
def stepO (b : SMm) (st : List Cell) (o : Option Sg) : SR := match o with
  | some σ1 => b σ1 st
  | none => .no
@[simp] theorem stepO_e (b : SMm) : stepO b st (some σ) = b σ st := rfl
def stepS (t : Tg) (b : SMm) (w : W) (σ : Sg) (st : List Cell) : SR := stepO b st (t.put w σ)
@[simp] theorem stepS_nm (i : Nat) (b : SMm) (w : W) : stepS (.nm i) b w σ st = b (σ.set i (some w)) st := by unfold stepS; simp
@[simp] theorem stepS_tp (ts : List Tg) (b : SMm) (l : List P) : stepS (.tp ts) b (.p (.tup l)) σ st = stepO b st (Tg.puts ts l σ) := by unfold stepS; simp
def Sq (I : Sg → List Cell → Prop) (F : SR → Prop) (r : SR) : Prop := match r with
  | .ok .nx σ st => I σ st
  | .ok .ct σ st => I σ st
  | .ok .bk σ st => F (.ok .nx σ st)
  | .ok (.rt w) σ st => F (.ok (.rt w) σ st)
  | _ => False
@[simp] theorem Sq_nx (I : Sg → List Cell → Prop) (F : SR → Prop) : Sq I F (.ok .nx σ st) = I σ st := rfl
@[simp] theorem Sq_ct (I : Sg → List Cell → Prop) (F : SR → Prop) : Sq I F (.ok .ct σ st) = I σ st := rfl
@[simp] theorem Sq_bk (I : Sg → List Cell → Prop) (F : SR → Prop) : Sq I F (.ok .bk σ st) = F (.ok .nx σ st) := rfl
@[simp] theorem Sq_rt (I : Sg → List Cell → Prop) (F : SR → Prop) (w : W) : Sq I F (.ok (.rt w) σ st) = F (.ok (.rt w) σ st) := rfl
@[simp] theorem Sq_no (I : Sg → List Cell → Prop) (F : SR → Prop) : Sq I F .no = False := rfl
@[simp] theorem Sq_ite (I : Sg → List Cell → Prop) (F : SR → Prop) {c : Prop} [Decidable c] (a b : SR) : Sq I F (if c then a else b) = if c then Sq I F a else Sq I F b := by split <;> rfl
theorem forL_rule {t : Tg} {b : SMm} (F : SR → Prop) (I : Nat → Sg → List Cell → Prop) : ∀ {l : List W} {σ : Sg} {st : List Cell}, I 0 σ st →
    (∀ (i : Nat) (w : W) σ st, l[i]? = some w → I i σ st → Sq (I (i + 1)) F (stepS t b w σ st)) → (∀ σ st, I l.length σ st → F (.ok .nx σ st)) → F (forL t b l σ st) := by
  have go : ∀ {l : List W} {k : Nat} {σ : Sg} {st : List Cell}, I k σ st → (∀ (i : Nat) (w : W) σ st, l[i]? = some w → I (k + i) σ st → Sq (I (k + i + 1)) F (stepS t b w σ st)) → (∀ σ st, I (k + l.length) σ st → F (.ok .nx σ st)) → F (forL t b l σ st) := by
    intro l
    induction l with
    | nil => intro k σ st h _ e; exact e σ st h
    | cons w l ih =>
      intro k σ st h s e
      have s0 := s 0 w σ st rfl h
      rw [forL_cons]
      unfold stepS at s0
      cases ep : t.put w σ with
      | none => rw [ep] at s0; exact s0.elim
      | some σ1 =>
        rw [ep, stepO_e] at s0
        rw [forP_e]
        have nxt : ∀ σ2 st2, I (k + 0 + 1) σ2 st2 → F (forL t b l σ2 st2) := fun σ2 st2 h2 => ih (k := k + 0 + 1) h2
          (fun i w' σ' st' g g2 => by
            have := s (i + 1) w' σ' st' (by simpa using g) (by rw [show k + (i + 1) = k + 0 + 1 + i by omega]; exact g2)
            rw [show k + (i + 1) + 1 = k + 0 + 1 + i + 1 by omega] at this
            exact this)
          (fun σ' st' g => e σ' st' (by rw [List.length_cons, show k + (l.length + 1) = k + 0 + 1 + l.length by omega]; exact g))
        cases hr : b σ1 st with
        | ok f σ2 st2 =>
          rw [hr] at s0
          cases f with
          | nx => exact nxt σ2 st2 s0
          | ct => exact nxt σ2 st2 s0
          | bk => exact s0
          | rt v => exact s0
        | exc _ _ _ => rw [hr] at s0; exact s0.elim
        | no => rw [hr] at s0; exact s0.elim
  intro l σ st h s e
  refine go (k := 0) h (fun i w σ st g g2 => ?_) (fun σ st g => e σ st (by rw [Nat.zero_add] at g; exact g))
  rw [Nat.zero_add] at g2 ⊢
  exact s i w σ st g g2
def lcL (t : Tg) (c : TM) (e : EM) (σ0 : Sg) : List W → List Cell → Res (List W)
  | [], st => .ok [] st
  | w :: l, st => match t.put w σ0 with
      | none => .no
      | some σ1 => (c σ1 st).nox.bind fun k st1 => if k = true then (e σ1 st1).nox.bind fun w st2 => (lcL t c e σ0 l st2).bind fun ws st3 => .ok (w :: ws) st3 else lcL t c e σ0 l st1
theorem lcF_go {l : List W} (get : List Cell → Nat → Option (Option W)) (t : Tg) (c : TM) (e : EM) (σ0 : Sg) (n0 : Nat) (hg : ∀ st i, i ≤ l.length → get st i = some l[i]?) : ∀ (n i : Nat) (st : List Cell), i ≤ l.length → l.length - i < n → lcF ⟨get, n0⟩ t c e σ0 n i st = lcL t c e σ0 (l.drop i) st := by
  intro n
  induction n with
  | zero => intro i st hi h; omega
  | succ n ih =>
    intro i st hi h
    rw [lcF]
    show (match get st i with | none => Res.no | some none => .ok [] st | some (some w) => _) = _
    rw [hg st i hi]
    by_cases hl : i < l.length
    · rw [List.getElem?_eq_getElem hl, List.drop_eq_getElem_cons hl, lcL]
      simp only
      cases t.put l[i] σ0 with
      | none => rfl
      | some σ1 =>
        simp only
        congr 1; funext k st1
        rw [ih (i + 1) st1 (by omega) (by omega)]
        by_cases hk : k = true
        · rw [if_pos hk, if_pos hk]
          congr 1; funext w st2
          rw [ih (i + 1) st2 (by omega) (by omega)]
        · rw [if_neg hk, if_neg hk]
    · rw [List.getElem?_eq_none (by omega), List.drop_of_length_le (by omega), lcL]
theorem lcF_srcL (l : List W) (t : Tg) (c : TM) (e : EM) (σ0 : Sg) (st : List Cell) : lcF (srcL l) t c e σ0 (l.length + 1) 0 st = lcL t c e σ0 l st := by
  have := lcF_go (l := l) (fun _ i => some l[i]?) t c e σ0 l.length (fun _ _ _ => rfl) (l.length + 1) 0 st (by omega) (by omega)
  rw [List.drop_zero] at this
  exact this
theorem lcF_srcZ (l : List W) (t : Tg) (c : TM) (e : EM) (σ0 : Sg) (st : List Cell) : lcF (srcZ l) t c e σ0 (l.length + 1) 0 st = lcL t c e σ0 l st := by
  have := lcF_go (l := l) (fun _ i => if i ≤ l.length then some l[i]? else none) t c e σ0 l.length (fun _ i hi => if_pos hi) (l.length + 1) 0 st (by omega) (by omega)
  rw [List.drop_zero] at this
  exact this
def lcK (t : Tg) (vs : List Nat) (c : TM) (e : EM) (fin : List W → List Cell → Res W) (σ : Sg) (src : Src) (st1 : List Cell) : Res W := if src.n ≤ 1000000 then (lcF src t c e (wipeS σ vs) (src.n + 1) 0 st1).bind fin else .no
theorem lcK_e (t : Tg) (vs : List Nat) (c : TM) (e : EM) (fin : List W → List Cell → Res W) (src : Src) : lcK t vs c e fin σ src st = if src.n ≤ 1000000 then (lcF src t c e (wipeS σ vs) (src.n + 1) 0 st).bind fin else .no := rfl
@[simp] theorem mLc_e (m : IM) (t : Tg) (vs : List Nat) (c : TM) (e : EM) (fin : List W → List Cell → Res W) : mLc m t vs c e fin σ st = (m σ st).bind (lcK t vs c e fin σ) := rfl
@[simp] theorem lcK_L (t : Tg) (vs : List Nat) (c : TM) (e : EM) (fin : List W → List Cell → Res W) (l : List W) : lcK t vs c e fin σ (srcL l) st = if l.length ≤ 1000000 then (lcL t c e (wipeS σ vs) l st).bind fin else .no := by
  rw [lcK_e, srcL_n, lcF_srcL]
@[simp] theorem lcK_Z (t : Tg) (vs : List Nat) (c : TM) (e : EM) (fin : List W → List Cell → Res W) (l : List W) : lcK t vs c e fin σ (srcZ l) st = if l.length ≤ 1000000 then (lcL t c e (wipeS σ vs) l st).bind fin else .no := by
  rw [lcK_e, srcZ_n, lcF_srcZ]
@[simp] theorem sforK_L (t : Tg) (b : SMm) (l : List W) : sforK t b σ (srcL l) st = forL t b l σ st := by
  rw [sforK_e, srcL_n, forF_srcL]
@[simp] theorem sforK_Z (t : Tg) (b : SMm) (l : List W) : sforK t b σ (srcZ l) st = forL t b l σ st := by
  rw [sforK_e, srcZ_n, forF_srcZ]
@[simp] theorem mYes_e : mYes σ st = .ok true st := rfl
@[simp] theorem wipeS_nil : wipeS σ [] = σ := rfl
@[simp] theorem wipeS_cons (v : Nat) (vs : List Nat) : wipeS σ (v :: vs) = (wipeS σ vs).set v none := rfl
@[simp] theorem finP_e (ws : List W) : finP ws st = pR (fun l => .p (.lst l)) (pures ws) st := by unfold finP pR; rfl
@[simp] theorem finC_e (ws : List W) : finC ws st = .ok (.r st.length) (st ++ [.lst ws]) := rfl
def lcP (t : Tg) (c : TM) (e : EM) (σ0 : Sg) (l : List W) (st : List Cell) (o : Option Sg) : Res (List W) := match o with
  | none => .no
  | some σ1 => (c σ1 st).nox.bind fun k st1 => if k = true then (e σ1 st1).nox.bind fun w st2 => (lcL t c e σ0 l st2).bind fun ws st3 => .ok (w :: ws) st3 else lcL t c e σ0 l st1
@[simp] theorem lcL_nil (t : Tg) (c : TM) (e : EM) (σ0 : Sg) : lcL t c e σ0 [] st = .ok [] st := rfl
@[simp] theorem lcL_cons (t : Tg) (c : TM) (e : EM) (σ0 : Sg) (w : W) (l : List W) : lcL t c e σ0 (w :: l) st = lcP t c e σ0 l st (t.put w σ0) := by
  rw [lcL]; unfold lcP; rfl
def lcC2 (t : Tg) (c : TM) (e : EM) (σ0 : Sg) (l : List W) (w : W) (st2 : List Cell) : Res (List W) := (lcL t c e σ0 l st2).bind (consK2 w)
@[simp] theorem lcC2_e (t : Tg) (c : TM) (e : EM) (σ0 : Sg) (l : List W) (w : W) : lcC2 t c e σ0 l w st = (lcL t c e σ0 l st).bind (consK2 w) := rfl
def lcC (t : Tg) (c : TM) (e : EM) (σ0 : Sg) (l : List W) (σ : Sg) (k : Bool) (st1 : List Cell) : Res (List W) := if k = true then (e σ st1).nox.bind (lcC2 t c e σ0 l) else lcL t c e σ0 l st1
@[simp] theorem lcC_e (t : Tg) (c : TM) (e : EM) (σ0 : Sg) (l : List W) (k : Bool) : lcC t c e σ0 l σ k st = if k = true then (e σ st).nox.bind (lcC2 t c e σ0 l) else lcL t c e σ0 l st := rfl
@[simp] theorem lcP_e (t : Tg) (c : TM) (e : EM) (σ0 : Sg) (l : List W) : lcP t c e σ0 l st (some σ) = (c σ st).nox.bind (lcC t c e σ0 l σ) := rfl
def El (I : W → List Cell → Prop) (r : Res W) : Prop := match r with
  | .ok w st => I w st
  | _ => False
@[simp] theorem El_ok (I : W → List Cell → Prop) (w : W) : El I (.ok w st) = I w st := rfl
@[simp] theorem El_no (I : W → List Cell → Prop) : El I .no = False := rfl
@[simp] theorem El_ite (I : W → List Cell → Prop) {c : Prop} [Decidable c] (a b : Res W) : El I (if c then a else b) = if c then El I a else El I b := by split <;> rfl
def stepP (e : EM) (st : List Cell) (o : Option Sg) : Res W := match o with
  | some σ1 => e σ1 st
  | none => .no
@[simp] theorem stepP_e (e : EM) : stepP e st (some σ) = e σ st := rfl
def stepE (t : Tg) (e : EM) (w : W) (σ : Sg) (st : List Cell) : Res W := stepP e st (t.put w σ)
@[simp] theorem stepE_nm (i : Nat) (e : EM) (w : W) : stepE (.nm i) e w σ st = e (σ.set i (some w)) st := by unfold stepE; simp
@[simp] theorem stepE_tp (ts : List Tg) (e : EM) (l : List P) : stepE (.tp ts) e (.p (.tup l)) σ st = stepP e st (Tg.puts ts l σ) := by unfold stepE; simp
theorem lcL_mapF {α : Type} {l : List α} {f : α → W} {t : Tg} {e : EM} {σ0 : Sg} {st : List Cell} (g : α → P) (H : ∀ x ∈ l, ∃ σ1, t.put (f x) σ0 = some σ1 ∧ e σ1 st = .ok (.p (g x)) st) : lcL t mYes e σ0 (l.map f) st = .ok (l.map fun x => .p (g x)) st := by
  induction l with
  | nil => rfl
  | cons x l ih =>
    obtain ⟨σ1, e1, e2⟩ := H x List.mem_cons_self
    rw [List.map_cons, lcL_cons, e1, lcP_e, mYes_e]
    simp only [Res.nox_ok, Res.bind_ok, lcC_e, if_true, e2, lcC2_e]
    rw [ih fun y m => H y (List.mem_cons_of_mem _ m)]
    rfl
def lc2K (t : Tg) (vs : List Nat) (c : TM) (m1 : IM) (t1 : Tg) (vs1 : List Nat) (c1 : TM) (e : EM) (fin : List W → List Cell → Res W) (σ : Sg) (src : Src) (st1 : List Cell) : Res W :=
  if src.n < 1000 then (lc2F src t c m1 t1 vs1 c1 e (wipeS σ vs) (src.n + 1) 0 st1).bind fin else .no
@[simp] theorem mLc2_e (m : IM) (t : Tg) (vs : List Nat) (c : TM) (m1 : IM) (t1 : Tg) (vs1 : List Nat) (c1 : TM) (e : EM) (fin : List W → List Cell → Res W) : mLc2 m t vs c m1 t1 vs1 c1 e fin σ st = (m σ st).bind (lc2K t vs c m1 t1 vs1 c1 e fin σ) := rfl
def srcR (o : Option Src) (st : List Cell) : Res Src := match o with
  | some s => .ok s st
  | none => .no
@[simp] theorem srcR_e (s : Src) : srcR (some s) st = .ok s st := rfl
def srcK (w : W) (st1 : List Cell) : Res Src := srcR (vSrc st1 w) st1
@[simp] theorem srcK_e (w : W) : srcK w st = srcR (vSrc st w) st := rfl
@[simp] theorem mSrc_e (m : EM) : mSrc m σ st = (m σ st).bind srcK := rfl
@[simp] theorem vSrc_lst (l : List P) : vSrc st (.p (.lst l)) = some (srcL (l.map .p)) := rfl
@[simp] theorem vSrc_tup (l : List P) : vSrc st (.p (.tup l)) = some (srcL (l.map .p)) := rfl
@[simp] theorem vSrc_str (z : Str) : vSrc st (.p (.str z)) = some (srcL (chars z)) := rfl
def rngR (w : W) (st1 : List Cell) : Res Src := match w with
  | .p (.int j) => if j ≤ 1000000 ∧ -1000000 ≤ j then .ok (srcL (rngL 0 j.toNat)) st1 else .no
  | _ => .no
@[simp] theorem rngR_e (j : Int) : rngR (.p (.int j)) st = if j ≤ 1000000 ∧ -1000000 ≤ j then .ok (srcL (rngL 0 j.toNat)) st else .no := rfl
@[simp] theorem mRng1_e (a : EM) : mRng1 a σ st = (a σ st).bind rngR := rfl
def rng2R (w u : W) (st2 : List Cell) : Res Src := match w, u with
  | .p (.int i), .p (.int j) => if (j ≤ 1000000 ∧ -1000000 ≤ j) ∧ i ≤ 1000000 ∧ -1000000 ≤ i then .ok (srcL (rngL i (j - i).toNat)) st2 else .no
  | _, _ => .no
@[simp] theorem rng2R_e (i j : Int) : rng2R (.p (.int i)) (.p (.int j)) st = if (j ≤ 1000000 ∧ -1000000 ≤ j) ∧ i ≤ 1000000 ∧ -1000000 ≤ i then .ok (srcL (rngL i (j - i).toNat)) st else .no := rfl
def rng2K (b : EM) (σ : Sg) (w : W) (st1 : List Cell) : Res Src := (b σ st1).bind (rng2R w)
@[simp] theorem rng2K_e (b : EM) (w : W) : rng2K b σ w st = (b σ st).bind (rng2R w) := rfl
@[simp] theorem mRng2_e (a b : EM) : mRng2 a b σ st = (a σ st).bind (rng2K b σ) := rfl
@[simp] theorem rngL_len (lo : Int) (n : Nat) : (rngL lo n).length = n := by unfold rngL; simp
def zipR (x y : Option (List P)) (st : List Cell) : Res Src := match x, y with
  | some l, some m => .ok (srcZ (zipL l m)) st
  | _, _ => .no
@[simp] theorem zipR_e (l m : List P) : zipR (some l) (some m) st = .ok (srcZ (zipL l m)) st := rfl
def zipK2 (x y : W) (st1 : List Cell) : Res Src := zipR (zItems x) (zItems y) st1
@[simp] theorem zipK2_e (x y : W) : zipK2 x y st = zipR (zItems x) (zItems y) st := rfl
def zipK (b : EM) (σ : Sg) (x : W) (st1 : List Cell) : Res Src := (b σ st1).bind (zipK2 x)
@[simp] theorem zipK_e (b : EM) (x : W) : zipK b σ x st = (b σ st).bind (zipK2 x) := rfl
@[simp] theorem mZipA_e (a b : EM) : mZipA a b σ st = (a σ st).bind (zipK b σ) := rfl
@[simp] theorem zItems_lst (l : List P) : zItems (.p (.lst l)) = some l := rfl
@[simp] theorem zItems_tup (l : List P) : zItems (.p (.tup l)) = some l := rfl
@[simp] theorem zItems_str (z : Str) : zItems (.p (.str z)) = some (z.cps.toList.map fun c => .str ⟨#[c]⟩) := rfl
@[simp high] theorem zItems_abc : zItems (.p (.str (Str.ofString "abc"))) = some [.str (Str.ofString "a"), .str (Str.ofString "b"), .str (Str.ofString "c")] := rfl
@[simp] theorem zipL_cons (x y : P) (l m : List P) : zipL (x :: l) (y :: m) = .p (.tup [x, y]) :: zipL l m := rfl
@[simp] theorem zipL_nil (m : List P) : zipL [] m = [] := by unfold zipL; rfl
@[simp] theorem zipL_nil2 (m : List P) : zipL m [] = [] := by cases m <;> rfl
@[simp] theorem chars_abc : chars (Str.ofString "abc") = [.p (.str (Str.ofString "a")), .p (.str (Str.ofString "b")), .p (.str (Str.ofString "c"))] := by
  unfold chars; rfl
def Gv (r : Res W) (x : P) : Prop := match r with
  | .ok w _ => w = .p x
  | _ => False
@[simp] theorem Gv_ok (w : W) (x : P) : Gv (.ok w st) x = (w = .p x) := rfl
@[simp] theorem Gv_no (x : P) : Gv .no x = False := rfl
@[simp] theorem Gv_ite {c : Prop} [Decidable c] (a b : Res W) (x : P) : Gv (if c then a else b) x = if c then Gv a x else Gv b x := by split <;> rfl
theorem Gv.ex {r : Res W} {x : P} (h : Gv r x) : ∃ st', r = .ok (.p x) st' := by
  unfold Gv at h
  split at h
  · subst h; exact ⟨_, rfl⟩
  · exact h.elim
def Pu (F : FM) (xs : List P) (r : P) : Prop := Gv (F (xs.map W.p) []) r
theorem argRefs_pure : ∀ (xs : List P), argRefs (xs.map W.p) = []
  | [] => rfl
  | x :: xs => by show argRefs (xs.map W.p) = []; exact argRefs_pure xs
theorem argIn_pure : ∀ (xs : List P) (k : Nat), argIn k (xs.map W.p) = xs.map W.p
  | [], _ => rfl
  | x :: xs, k => by show W.p x :: argIn k (xs.map W.p) = _; rw [argIn_pure xs k]; rfl
theorem Pu.call {F : FM} {xs : List P} {r : P} (h : Pu F xs r) (st : List Cell) : callF F (xs.map W.p) st = .ok (.p r) st := by
  obtain ⟨st', h⟩ := Gv.ex h
  unfold callF
  rw [argRefs_pure, argIn_pure, if_pos List.nodup_nil]
  show callEnd 0 [] st (F (xs.map W.p) []) = _
  rw [h]
  simp [Y.callEnd, Y.putCells]
theorem Pu.of1 {F : FM} {x r : P} (h : Gv (F [.p x] []) r) : Pu F [x] r := h
theorem Pu.of2 {F : FM} {x y r : P} (h : Gv (F [.p x, .p y] []) r) : Pu F [x, y] r := h
theorem Pu.of3 {F : FM} {x y z r : P} (h : Gv (F [.p x, .p y, .p z] []) r) : Pu F [x, y, z] r := h
theorem Pu.call1 {F : FM} {x r : P} (h : Pu F [x] r) (st : List Cell) : callF F [.p x] st = .ok (.p r) st := h.call st
theorem Pu.call2 {F : FM} {x y r : P} (h : Pu F [x, y] r) (st : List Cell) : callF F [.p x, .p y] st = .ok (.p r) st := h.call st
theorem Pu.call3 {F : FM} {x y z r : P} (h : Pu F [x, y, z] r) (st : List Cell) : callF F [.p x, .p y, .p z] st = .ok (.p r) st := h.call st
def Gm (c : Nat) (m : List P) (r : Res W) : Prop := match r with
  | .ok (.p .non) (.ins c' l :: _) => c' = c ∧ l = m.map W.p
  | _ => False
@[simp] theorem Gm_ok (c c' : Nat) (m : List P) (l : List W) (r : List Cell) : Gm c m (.ok (.p .non) (.ins c' l :: r)) = (c' = c ∧ l = m.map W.p) := rfl
@[simp] theorem Gm_no (c : Nat) (m : List P) : Gm c m .no = False := rfl
@[simp] theorem Gm_ite (n : Nat) (m : List P) {c : Prop} [Decidable c] (a b : Res W) : Gm n m (if c then a else b) = if c then Gm n m a else Gm n m b := by split <;> rfl
end
end YZ
namespace YZ
open Y PySem PySem.Spec PyProof.Rows L2
variable {σ : Sg} {st : List Cell} {α β : Type}
@[simp] theorem Res.nox_exc (x : Exn) : (Res.exc x st : Res α).nox = .no := rfl
@[simp] theorem Res.to_exc (x : Exn) (k : α → List Cell → SR) : (Res.exc x st : Res α).to σ k = .exc x σ st := rfl
@[simp] theorem SR.then_exc (x : Exn) (k : Sg → List Cell → SR) : (SR.exc x σ st).then k = .exc x σ st := rfl
@[simp] theorem SR.nox_exc (x : Exn) : (SR.exc x σ st).nox = .no := rfl
@[simp] theorem forK_exc (t : Tg) (b : SMm) (l : List W) (x : Exn) : forK t b l (.exc x σ st) = .exc x σ st := rfl
def runRX : SR → Res W
  | .ok .nx _ st => .ok (.p .non) st
  | .ok (.rt w) _ st => .ok w st
  | .exc x _ st => .exc x st
  | _ => .no
@[simp] theorem runRX_nx : runRX (.ok .nx σ st) = .ok (.p .non) st := rfl
@[simp] theorem runRX_rt (w : W) : runRX (.ok (.rt w) σ st) = .ok w st := rfl
@[simp] theorem runRX_exc (x : Exn) : runRX (.exc x σ st) = .exc x st := rfl
@[simp] theorem runRX_no : runRX .no = .no := rfl
@[simp] theorem runRX_ite {c : Prop} [Decidable c] (a b : SR) : runRX (if c then a else b) = if c then runRX a else runRX b := by split <;> rfl
theorem runX_e (np N : Nat) (m : SMm) (ws : List W) : runX np N m ws st = if ws.length = np then runRX (m (ws.map some ++ List.replicate (N - np) none) st) else .no := by
  unfold runX runRX
  split <;> rfl
@[simp] theorem noxF_e (F : FM) (ws : List W) : noxF F ws st = (F ws st).nox := rfl
@[simp] theorem sRaise0_e (c : Nat) (T : Str) : sRaise0 c T σ st = .exc ⟨c, [.str T]⟩ σ st := rfl
def raiseK (c : Nat) (T : Str) (σ : Sg) (w : W) (st1 : List Cell) : SR := match w with
  | .p x => .exc ⟨c, [x, .str T]⟩ σ st1
  | _ => .no
@[simp] theorem raiseK_e (c : Nat) (T : Str) (x : P) : raiseK c T σ (.p x) st = .exc ⟨c, [x, .str T]⟩ σ st := rfl
@[simp] theorem sRaise1_e (c : Nat) (m : EM) (T : Str) : sRaise1 c m T σ st = (m σ st).to σ (raiseK c T σ) := by
  unfold sRaise1 raiseK; rfl
@[simp] theorem mCallX_e (F : FM) (a : AM) : mCallX F a σ st = (a σ st).bind (callF F) := rfl
def clsRX (F : FM) (w : W) (ok : Bool) (r : Res (List W)) : Res W := if ok = true then r.bind fun ws st2 => callF F (w :: ws) st2 else .no
def callOX (F : FM) (w : W) (ws : List W) (st1 : List Cell) : Res W := callF F (w :: ws) st1
@[simp] theorem callOX_e (F : FM) (w : W) (ws : List W) : callOX F w ws st = callF F (w :: ws) st := rfl
@[simp] theorem clsRX_e (F : FM) (w : W) (r : Res (List W)) : clsRX F w true r = r.bind (callOX F w) := rfl
def methKX (c : Nat) (F : FM) (a : AM) (σ : Sg) (w : W) (st1 : List Cell) : Res W := clsRX F w (decide (clsOf st1 w = some c)) (a σ st1)
@[simp] theorem methKX_e (c : Nat) (F : FM) (a : AM) (w : W) : methKX c F a σ w st = clsRX F w (decide (clsOf st w = some c)) (a σ st) := rfl
@[simp] theorem mMethX_e (c : Nat) (F : FM) (o : EM) (a : AM) : mMethX c F o a σ st = (o σ st).bind (methKX c F a σ) := by
  unfold mMethX methKX clsRX
  congr 1
  funext w st1
  by_cases h : clsOf st1 w = some c <;> simp [h]
@[simp] theorem mMakeX_e (c n : Nat) (F : FM) (a : AM) : mMakeX c n F a σ st = (a σ st).bind (makeX c n F) := rfl
def propR (F : FM) (w : W) (st1 : List Cell) (ok : Bool) : Res W := if ok = true then (callF F [w] st1).nox else .no
@[simp] theorem propR_e (F : FM) (w : W) : propR F w st true = (callF F [w] st).nox := rfl
def propK2 (c : Nat) (F : FM) (w : W) (st1 : List Cell) : Res W := propR F w st1 (decide (clsOf st1 w = some c))
@[simp] theorem propK2_e (c : Nat) (F : FM) (w : W) : propK2 c F w st = propR F w st (decide (clsOf st w = some c)) := rfl
@[simp] theorem mProp_e (c : Nat) (F : FM) (o : EM) : mProp c F o σ st = (o σ st).bind (propK2 c F) := by
  unfold mProp propK2 propR
  congr 1
  funext w st1
  by_cases h : clsOf st1 w = some c <;> simp [h]
def tryO (o : Option P) (st : List Cell) : Res W := match o with
  | some p => .ok (.p p) st
  | none => .no
@[simp] theorem tryO_e (p : P) : tryO (some p) st = .ok (.p p) st := rfl
def tryK (tb : List (Nat × Str × Option Str)) : Res W → Res W
  | .ok (.p x) st1 => .ok (.p (.tup [.str "value", x])) st1
  | .ok (.r _) _ => .no
  | .exc x st1 => tryO (tryE tb x) st1
  | .no => .no
@[simp] theorem tryK_ok (tb : List (Nat × Str × Option Str)) (x : P) : tryK tb (.ok (.p x) st) = .ok (.p (.tup [.str "value", x])) st := rfl
@[simp] theorem tryK_exc (tb : List (Nat × Str × Option Str)) (x : Exn) : tryK tb (.exc x st) = tryO (tryE tb x) st := rfl
@[simp] theorem tryK_no (tb : List (Nat × Str × Option Str)) : tryK tb .no = .no := rfl
@[simp] theorem tryK_ite (tb : List (Nat × Str × Option Str)) {c : Prop} [Decidable c] (a b : Res W) : tryK tb (if c then a else b) = if c then tryK tb a else tryK tb b := by split <;> rfl
@[simp] theorem mTryL_e (tb : List (Nat × Str × Option Str)) (m : EM) : mTryL tb m σ st = tryK tb (m σ st) := by
  unfold mTryL tryK
  split <;> first | rfl | (rename_i e; rw [e]) | skip
  all_goals first | rfl | (simp_all [tryO]; done) | (simp_all [tryO]; split <;> simp_all)
def tryEr (o : Option (Str × Option Str)) (l : List P) : Option P := match o with
  | some (T, none) => (match l with | [.str T'] => if T = T' then some (.tup [.str T, .non]) else none | _ => none)
  | some (T, some _) => (match l with | [y, .str T'] => if T = T' then some (.tup [.str T, y]) else none | _ => none)
  | none => none
@[simp] theorem tryE_e (tb : List (Nat × Str × Option Str)) (c : Nat) (l : List P) : tryE tb ⟨c, l⟩ = tryEr (tb.lookup c) l := by
  unfold tryE tryEr
  rfl
@[simp] theorem tryEr_0 (T : Str) : tryEr (some (T, none)) [.str T] = some (.tup [.str T, .non]) := by simp [tryEr]
@[simp] theorem tryEr_1 (T f : Str) (y : P) : tryEr (some (T, some f)) [y, .str T] = some (.tup [.str T, y]) := by simp [tryEr]
def tryCO (o : Option Bool) (x : P) (e : Exn) (σ : Sg) (st : List Cell) : SR := match o with
  | some true => .ok (.rt (.p x)) σ st
  | some false => .exc e σ st
  | none => .no
@[simp] theorem tryCO_t (x : P) (e : Exn) : tryCO (some true) x e σ st = .ok (.rt (.p x)) σ st := rfl
@[simp] theorem tryCO_f (x : P) (e : Exn) : tryCO (some false) x e σ st = .exc e σ st := rfl
def tryCR (T : List (Nat × Bool)) (x : P) : SR → SR
  | .exc e σ1 st1 => tryCO (T.lookup e.c) x e σ1 st1
  | r => r
@[simp] theorem sTryC_e (T : List (Nat × Bool)) (b : SMm) (x : P) : sTryC T b x σ st = tryCR T x (b σ st) := by
  unfold sTryC
  cases b σ st with
  | ok f σ1 st1 => rfl
  | exc e σ1 st1 => rfl
  | no => rfl
@[simp] theorem tryCR_ok (T : List (Nat × Bool)) (x : P) (f : Fl) : tryCR T x (.ok f σ st) = .ok f σ st := rfl
@[simp] theorem tryCR_no (T : List (Nat × Bool)) (x : P) : tryCR T x .no = .no := rfl
@[simp] theorem tryCR_exc (T : List (Nat × Bool)) (x : P) (e : Exn) : tryCR T x (.exc e σ st) = tryCO (T.lookup e.c) x e σ st := rfl
@[simp] theorem tryCR_ite (T : List (Nat × Bool)) (x : P) {c : Prop} [Decidable c] (a b : SR) : tryCR T x (if c then a else b) = if c then tryCR T x a else tryCR T x b := by split <;> rfl
@[simp] theorem asB_e (n k : Bool) : asB n (.ok (.p (.bl k)) st) = .ok (.p (.bl (k != n))) st := rfl
@[simp] theorem isStrR_e (z : Str) : isStrR (.ok (.p (.str z)) st) = .ok (.p (.str z)) st := rfl
@[simp] theorem isLenR_e (i : Int) : isLenR (.ok (.p (.int i)) st) = if 0 ≤ i ∧ i ≤ 1000000 then .ok (.p (.int i)) st else .no := rfl
@[simp] theorem isObjR_e (c : Nat) (l : List P) : isObjR (.ok (.p (.obj c l)) st) = .ok (.p (.obj c l)) st := rfl
@[simp] theorem isObjR_exc (x : Exn) : isObjR (.exc x st) = .exc x st := rfl
@[simp] theorem tyOk_non (c : Nat) : tyOk c st (.p .non) = true := rfl
@[simp] theorem tyOk_bl (c : Nat) (b : Bool) : tyOk c st (.p (.bl b)) = true := rfl
@[simp] theorem tyOk_int (c : Nat) (b : Int) : tyOk c st (.p (.int b)) = true := rfl
@[simp] theorem tyOk_str (c : Nat) (b : Str) : tyOk c st (.p (.str b)) = true := rfl
@[simp] theorem tyOk_tup (c : Nat) (b : List P) : tyOk c st (.p (.tup b)) = true := rfl
@[simp] theorem tyOk_lst (c : Nat) (b : List P) : tyOk c st (.p (.lst b)) = true := rfl
@[simp] theorem tyOk_obj (c : Nat) (b : List P) : tyOk c st (.p (.obj c b)) = true := by simp [tyOk]
def eqOR (neg : Bool) (F : FM) (x y : W) (st : List Cell) (ok : Bool) : Res W := if ok = true then asB neg (callF F [x, y] st) else .no
@[simp] theorem eqOR_e (neg : Bool) (F : FM) (x y : W) : eqOR neg F x y st true = asB neg (callF F [x, y] st) := rfl
@[simp] theorem vEqO_e (c : Nat) (F : FM) (neg : Bool) (x y : W) : vEqO c F neg x y st = eqOR neg F x y st (decide (clsOf st x = some c) && tyOk c st y) := by
  unfold vEqO eqOR
  by_cases h : clsOf st x = some c <;> simp [h]
def own1R (f : Res W → Res W) (F : FM) (w : W) (st : List Cell) (ok : Bool) : Res W := if ok = true then f (callF F [w] st) else .no
@[simp] theorem own1R_e (f : Res W → Res W) (F : FM) (w : W) : own1R f F w st true = f (callF F [w] st) := rfl
@[simp] theorem vReprO_e (c : Nat) (F : FM) (w : W) : vReprO c F [w] st = own1R isStrR F w st (decide (clsOf st w = some c)) := by
  unfold vReprO own1R
  by_cases h : clsOf st w = some c <;> simp [h]
@[simp] theorem vLenO_e (c : Nat) (F : FM) (w : W) : vLenO c F [w] st = own1R isLenR F w st (decide (clsOf st w = some c)) := by
  unfold vLenO own1R
  by_cases h : clsOf st w = some c <;> simp [h]
def isOR (c : Nat) (tb : List (Nat × Bool)) (o : Option Nat) (t : Option String) (st : List Cell) : Res W := match o with
  | some d => if d = c then .ok (.p (.bl true)) st else (match tb.lookup d with | some b => .ok (.p (.bl b)) st | none => .no)
  | none => (match t with | some _ => .ok (.p (.bl false)) st | none => .no)
def isOK (c : Nat) (tb : List (Nat × Bool)) (w : W) (st : List Cell) : Res W := isOR c tb (clsOf st w) (tyName st w) st
@[simp] theorem isOK_e (c : Nat) (tb : List (Nat × Bool)) (w : W) : isOK c tb w st = isOR c tb (clsOf st w) (tyName st w) st := rfl
@[simp] theorem mIsO_e (c : Nat) (tb : List (Nat × Bool)) (a : EM) : mIsO c tb a σ st = (a σ st).bind (isOK c tb) := by
  unfold mIsO isOK isOR; rfl
@[simp] theorem isOR_same (c : Nat) (tb : List (Nat × Bool)) (t : Option String) : isOR c tb (some c) t st = .ok (.p (.bl true)) st := by simp [isOR]
@[simp] theorem isOR_none (c : Nat) (tb : List (Nat × Bool)) (t : String) : isOR c tb none (some t) st = .ok (.p (.bl false)) st := rfl
@[simp] theorem clsOf_non : clsOf st (.p .non) = none := rfl
@[simp] theorem clsOf_bl (b : Bool) : clsOf st (.p (.bl b)) = none := rfl
@[simp] theorem clsOf_int (b : Int) : clsOf st (.p (.int b)) = none := rfl
@[simp] theorem clsOf_str (b : Str) : clsOf st (.p (.str b)) = none := rfl
@[simp] theorem clsOf_tup (b : List P) : clsOf st (.p (.tup b)) = none := rfl
@[simp] theorem clsOf_lst (b : List P) : clsOf st (.p (.lst b)) = none := rfl
def callOR (F : FM) (o p : Option (Option W)) (c : Nat) (st : List Cell) : Res W := match o, p with
  | some (some x), some (some y) => if clsOf st x = some c then callF F [x, y] st else .no
  | _, _ => .no
@[simp] theorem mCallO_e (c : Nat) (F : FM) (i j : Nat) : mCallO c F i j σ st = callOR F σ[i]? σ[j]? c st := by
  unfold mCallO callOR; rfl
@[simp] theorem callOR_e (F : FM) (x y : W) (c : Nat) : callOR F (some (some x)) (some (some y)) c st = if clsOf st x = some c then callF F [x, y] st else .no := rfl
def binOK3 (c : Nat) (F : FM) (x y : W) (st2 : List Cell) : Res W := if clsOf st2 x = some c ∧ clsOf st2 y = some c then isObjR (callF F [x, y] st2) else .no
@[simp] theorem binOK3_e (c : Nat) (F : FM) (x y : W) : binOK3 c F x y st = if clsOf st x = some c ∧ clsOf st y = some c then isObjR (callF F [x, y] st) else .no := rfl
@[simp] theorem mBinO_e (c : Nat) (F : FM) (a b : EM) : mBinO c F a b σ st = (a σ st).bind (binK (binOK3 c F) b σ) := rfl
end YZ
namespace YZ
open Y PySem PySem.Spec PyProof.Rows L2
variable {st : List Cell}
def Ge (e : Exn) (r : Res W) : Prop := match r with
  | .exc e' _ => e' = e
  | _ => False
@[simp] theorem Ge_exc (e e' : Exn) : Ge e (.exc e' st) = (e' = e) := rfl
@[simp] theorem Ge_ok (e : Exn) (w : W) : Ge e (.ok w st) = False := rfl
@[simp] theorem Ge_no (e : Exn) : Ge e .no = False := rfl
@[simp] theorem Ge_ite (e : Exn) {c : Prop} [Decidable c] (a b : Res W) : Ge e (if c then a else b) = if c then Ge e a else Ge e b := by split <;> rfl
theorem Ge.ex {e : Exn} {r : Res W} (h : Ge e r) : ∃ st, r = .exc e st := by
  unfold Ge at h
  split at h
  · subst h; exact ⟨_, rfl⟩
  · exact h.elim
theorem Ge.call {F : FM} {xs : List P} {e : Exn} (h : Ge e (F (xs.map W.p) [])) (st : List Cell) : callF F (xs.map W.p) st = .exc e st := by
  obtain ⟨st', h⟩ := Ge.ex h
  unfold callF
  rw [argRefs_pure, argIn_pure, if_pos List.nodup_nil]
  show Y.callEnd 0 [] st (F (xs.map W.p) []) = _
  rw [h]
  simp [Y.callEnd, Y.putCells]
theorem Ge.call1 {F : FM} {x : P} {e : Exn} (h : Ge e (F [.p x] [])) (st : List Cell) : callF F [.p x] st = .exc e st := Ge.call (xs := [x]) h st
theorem Ge.call2 {F : FM} {x y : P} {e : Exn} (h : Ge e (F [.p x, .p y] [])) (st : List Cell) : callF F [.p x, .p y] st = .exc e st := Ge.call (xs := [x, y]) h st
theorem Ge.call3 {F : FM} {x y z : P} {e : Exn} (h : Ge e (F [.p x, .p y, .p z] [])) (st : List Cell) : callF F [.p x, .p y, .p z] st = .exc e st := Ge.call (xs := [x, y, z]) h st
theorem makeX_pure {c n : Nat} {F : FM} {xs m : List P} (h : Gm c m (F (.r 0 :: xs.map W.p) [.ins c []])) (hm : m.length = n) (st : List Cell) : makeX c n F (xs.map W.p) st = .ok (.p (.obj c m)) st := by
  unfold Gm at h
  split at h
  · rename_i c' l r e
    obtain ⟨rfl, rfl⟩ := h
    unfold makeX
    rw [argRefs_pure, argIn_pure]
    simp [Y.getCells, e, hm, Y.putCells]
  · exact h.elim
theorem makeX_exc {c n : Nat} {F : FM} {xs : List P} {e : Exn} (h : ∃ d r, F (.r 0 :: xs.map W.p) [.ins c []] = .exc e (d :: r)) (st : List Cell) : makeX c n F (xs.map W.p) st = .exc e st := by
  obtain ⟨d, r, h⟩ := h
  unfold makeX
  rw [argRefs_pure, argIn_pure]
  simp [Y.getCells, h, Y.putCells]
@[simp] theorem sWhile_e (n : Nat) (c : TM) (b : SMm) (σ : Sg) (st : List Cell) : sWhile n c b σ st = whileF c b n σ st := rfl
theorem pEqs_self : ∀ {l : List P}, (∀ x ∈ l, pEq x x = true) → pEqs l l = true
  | [], _ => by simp
  | x :: l, h => by rw [pEqs_cons, h x List.mem_cons_self, pEqs_self fun y m => h y (List.mem_cons_of_mem _ m)]; rfl
theorem pEq_self : ∀ (n : Nat) (x : P), okP n x = true → pEq x x = true
  | n, .non, _ => by rw [pEq]
  | n, .int i, _ => by simp
  | n, .str i, _ => by simp
  | n, .bl i, _ => by simp
  | 0, .tup l, h => by rw [okP] at h <;> first | cases h | (intros; contradiction)
  | 0, .lst l, h => by rw [okP] at h <;> first | cases h | (intros; contradiction)
  | n + 1, .tup l, h => by
    rw [okP, List.all_eq_true] at h
    rw [pEq_tup]
    exact pEqs_self fun x m => pEq_self n x (h x m)
  | n + 1, .lst l, h => by
    rw [okP, List.all_eq_true] at h
    rw [pEq_lst]
    exact pEqs_self fun x m => pEq_self n x (h x m)
  | n, .scr _, h => by cases n <;> (rw [okP] at h <;> first | cases h | (intros; contradiction))
  | n, .obj _ _, h => by cases n <;> (rw [okP] at h <;> first | cases h | (intros; contradiction))
  | n, .exn _ _, h => by cases n <;> (rw [okP] at h <;> first | cases h | (intros; contradiction))
  | n, .lam _ _, h => by cases n <;> (rw [okP] at h <;> first | cases h | (intros; contradiction))
  | n, .cls _, h => by cases n <;> (rw [okP] at h <;> first | cases h | (intros; contradiction))
  | n, .fd _ _, h => by cases n <;> (rw [okP] at h <;> first | cases h | (intros; contradiction))
  | n, .fn _ _, h => by cases n <;> (rw [okP] at h <;> first | cases h | (intros; contradiction))
  | n, .dk _ _, h => by cases n <;> (rw [okP] at h <;> first | cases h | (intros; contradiction))
end YZ
namespace YZ
open Y PySem PySem.Spec PyProof.Rows L2
section
variable {σ : Sg} {st : List Cell}
def srcCO (j : Nat) (c : Option Cell) : Option Src := match c with
  | some (.lst l) => some (srcC j l.length)
  | _ => none
@[simp] theorem srcCO_e (j : Nat) (l : List W) : srcCO j (some (.lst l)) = some (srcC j l.length) := rfl
@[simp] theorem vSrc_r (j : Nat) : vSrc st (.r j) = srcCO j st[j]? := by
  show (match st[j]? with | some (.lst l) => some (srcC j l.length) | _ => none) = _
  unfold srcCO
  rfl
def lrK (w : W) (st1 : List Cell) : Res W := match w with
  | .p (.int n) => if 0 ≤ n ∧ n ≤ 1000000 then .ok (.p (.lst ((List.range n.toNat).map fun (i : Nat) => P.int (i : Int)))) st1 else .no
  | _ => .no
@[simp] theorem lrK_e (n : Int) : lrK (.p (.int n)) st = if 0 ≤ n ∧ n ≤ 1000000 then .ok (.p (.lst ((List.range n.toNat).map fun (i : Nat) => P.int (i : Int)))) st else .no := rfl
@[simp] theorem mListRng_e (a : EM) : mListRng a σ st = (a σ st).bind lrK := rfl
def revR (o : Option (List P)) (st1 : List Cell) : Res W := match o with
  | some l => .ok (.p (.lst l.reverse)) st1
  | none => .no
@[simp] theorem revR_e (l : List P) : revR (some l) st = .ok (.p (.lst l.reverse)) st := rfl
def revK (w : W) (st1 : List Cell) : Res W := revR (Y.listOf st1 w) st1
@[simp] theorem revK_e (w : W) : revK w st = revR (Y.listOf st w) st := rfl
@[simp] theorem mRevL_e (a : EM) : mRevL a σ st = (a σ st).bind revK := by
  unfold mRevL revK revR; rfl
def srtR (o : Option (List P)) (st1 : List Cell) : Res W := match o with
  | some l => .ok (.p (.lst l)) st1
  | none => .no
@[simp] theorem srtR_e (l : List P) : srtR (some l) st = .ok (.p (.lst l)) st := rfl
def srtT (l : List P) : Option (List P) := match pairsOf l with
  | some m => if m.length < 64 then some ((sortP m).map tupP) else none
  | none => none
@[simp] theorem vSorted_tup (l : List P) : vSorted [.p (.tup l)] st = srtR (srtT l) st := by
  unfold vSorted srtT
  simp only
  cases pairsOf l with
  | none => rfl
  | some m => simp only; split <;> rfl
def srtK (o : Option (List P)) (st1 : List Cell) : Res W := srtR (o.bind srtL) st1
@[simp] theorem srtK_e (l : List P) : srtK (some l) st = srtR (srtL l) st := rfl
@[simp] theorem vSorted_lst (l : List P) : vSorted [.p (.lst l)] st = srtR (srtL l) st := by
  unfold vSorted
  simp only [listOf_lst]
  cases srtL l <;> rfl
@[simp] theorem vSorted_r (i : Nat) : vSorted [.r i] st = srtK (seqC st[i]?) st := by
  unfold vSorted
  simp only [listOf_r]
  unfold srtK
  cases seqC st[i]? with
  | none => rfl
  | some l => simp only [Option.bind_some]; cases srtL l <;> rfl
@[simp] theorem vCount_e (a b : Str) : vCount (.p (.str a)) [.p (.str b)] st = .ok (.p (.int (Txt.count a b))) st := rfl
def ddispR (o : Option Key) (y : W) (st2 : List Cell) : Res W := match o with
  | some k => .ok (.r st2.length) (st2 ++ [.dk [k] [y]])
  | none => .no
@[simp] theorem ddispR_e (k : Key) (y : W) : ddispR (some k) y st = .ok (.r st.length) (st ++ [.dk [k] [y]]) := rfl
def ddisp2K (x : W) (y : W) (st2 : List Cell) : Res W := match x with
  | .p z => ddispR (keyP z) y st2
  | _ => .no
@[simp] theorem ddisp2K_e (z : P) (y : W) : ddisp2K (.p z) y st = ddispR (keyP z) y st := rfl
def ddispK (mv : EM) (σ : Sg) (x : W) (st1 : List Cell) : Res W := (mv σ st1).nox.bind (ddisp2K x)
@[simp] theorem ddispK_e (mv : EM) (x : W) : ddispK mv σ x st = (mv σ st).nox.bind (ddisp2K x) := rfl
@[simp] theorem mDisp1_e (mk mv : EM) : mDisp1 mk mv σ st = (mk σ st).nox.bind (ddispK mv σ) := by
  unfold mDisp1 ddispK ddisp2K ddispR; rfl
@[simp] theorem keyP_int (i : Int) : keyP (.int i) = some (.inl i) := rfl
@[simp] theorem keyP_str (z : Str) : keyP (.str z) = some (.inr z) := rfl
def keysC (c : Option Cell) : Option (List Key) := match c with
  | some (.dk ks _) => some ks
  | _ => none
@[simp] theorem keysC_e (ks : List Key) (l : List W) : keysC (some (.dk ks l)) = some ks := rfl
@[simp] theorem keysW_r (i : Nat) : keysW st (.r i) = keysC st[i]? := rfl
@[simp] theorem keysW_dk (ks : List Key) (l : List P) : keysW st (.p (.dk ks l)) = some ks := rfl
def inKR (neg : Bool) (o : Option Key) (ks : Option (List Key)) (st1 : List Cell) : Res W := match o, ks with
  | some k, some ks => .ok (.p (.bl (hasK ks k != neg))) st1
  | _, _ => .no
@[simp] theorem inKR_e (neg : Bool) (k : Key) (ks : List Key) : inKR neg (some k) (some ks) st = .ok (.p (.bl (hasK ks k != neg))) st := rfl
@[simp] theorem vInK_e (neg : Bool) (z : P) (y : W) : vInK neg (.p z) y st = inKR neg (keyP z) (keysW st y) st := by
  unfold vInK inKR
  first
    | (cases keyP z <;> cases keysW st y <;> rfl)
    | (simp only; cases keyP z <;> cases keysW st y <;> rfl)
    | simp only
def dputR (i : Nat) (σ : Sg) (c : Option Cell) (o : Option Key) (x : W) (st3 : List Cell) : SR := match c, o with
  | some (.dk ks l), some kk => if ks.length < 1000000 then .ok .nx σ (st3.set i (.dk (dkPut ks l kk x).1 (dkPut ks l kk x).2)) else .no
  | _, _ => .no
@[simp] theorem dputR_e (i : Nat) (ks : List Key) (l : List W) (kk : Key) (x : W) : dputR i σ (some (.dk ks l)) (some kk) x st = if ks.length < 1000000 then .ok .nx σ (st.set i (.dk (dkPut ks l kk x).1 (dkPut ks l kk x).2)) else .no := rfl
def dputK3 (σ : Sg) (x w k : W) (st3 : List Cell) : SR := match w, k with
  | .r i, .p z => dputR i σ st3[i]? (keyP z) x st3
  | _, _ => .no
@[simp] theorem dputK3_e (x : W) (i : Nat) (z : P) : dputK3 σ x (.r i) (.p z) st = dputR i σ st[i]? (keyP z) x st := rfl
def dputK2 (ix : EM) (σ : Sg) (x w : W) (st2 : List Cell) : SR := (ix σ st2).to σ (dputK3 σ x w)
@[simp] theorem dputK2_e (ix : EM) (x w : W) : dputK2 ix σ x w st = (ix σ st).to σ (dputK3 σ x w) := rfl
def dputK1 (o ix : EM) (σ : Sg) (x : W) (st1 : List Cell) : SR := (o σ st1).to σ (dputK2 ix σ x)
@[simp] theorem dputK1_e (o ix : EM) (x : W) : dputK1 o ix σ x st = (o σ st).to σ (dputK2 ix σ x) := rfl
@[simp] theorem sPutK_e (o ix m : EM) : sPutK o ix m σ st = (m σ st).to σ (dputK1 o ix σ) := by
  unfold sPutK dputK1 dputK2 dputK3 dputR
  rfl
end
end YZ
namespace YZ
open Y PySem PySem.Spec PyProof.Rows L2
@[simp] theorem put_tp2 (i j : Nat) (x y : P) (σ : Sg) : (Tg.tp [.nm i, .nm j]).put (.p (.tup [x, y])) σ = some ((σ.set i (some (.p x))).set j (some (.p y))) := by simp
theorem enm_get {l : List P} {i : Nat} {w : W} (h : (enmL 0 l)[i]? = some w) : ∃ x, l[i]? = some x ∧ w = .p (.tup [.int (i : Nat), x]) := by
  rw [Y.enmL_get] at h
  obtain ⟨x, h1, h2⟩ := Option.map_eq_some_iff.mp h
  exact ⟨x, h1, by rw [← h2, Nat.zero_add]⟩
variable {σ : Sg} {st : List Cell}
@[simp] theorem mLam_e (j i : Nat) : mLam j i σ st = .ok (.p (.lam j i)) st := rfl
def tryVO (tb : List (Nat × Str × Option Str)) (o : Option EM) (σ : Sg) (st : List Cell) : Res W := match o with
  | some b => mTryL tb b σ st
  | none => .no
@[simp] theorem tryVO_e (tb : List (Nat × Str × Option Str)) (b : EM) : tryVO tb (some b) σ st = mTryL tb b σ st := rfl
def tryVK (tb : List (Nat × Str × Option Str)) (J : Nat) (ms : List EM) (σ : Sg) (w : W) (st1 : List Cell) : Res W := match w with
  | .p (.lam j i) => if j = J then tryVO tb ms[i]? σ st1 else .no
  | _ => .no
@[simp] theorem tryVK_e (tb : List (Nat × Str × Option Str)) (J i : Nat) (ms : List EM) : tryVK tb J ms σ (.p (.lam J i)) st = tryVO tb ms[i]? σ st := by simp [tryVK]
@[simp] theorem mTryV_e (tb : List (Nat × Str × Option Str)) (J : Nat) (ms : List EM) (m : EM) : mTryV tb J ms m σ st = (m σ st).bind (tryVK tb J ms σ) := by
  have e : ∀ w st1, (match w with
    | .p (.lam j i) => if j = J then (match ms[i]? with | some b => mTryL tb b σ st1 | none => .no) else .no
    | _ => .no : Res W) = tryVK tb J ms σ w st1 := by
    intro w st1
    unfold tryVK tryVO
    cases w with
    | r i => rfl
    | p x => cases x <;> rfl
  show (m σ st).bind _ = _
  cases m σ st with
  | ok w st1 => exact e w st1
  | exc x st1 => rfl
  | no => rfl
@[simp] theorem headK_e (x : P) (l : List P) : headK (.p (.tup (x :: l))) st = .ok (.p x) st := rfl
def wordVK (tb : List (Nat × Str × Option Str)) (J : Nat) (ms : List EM) (σ : Sg) (w : W) (st1 : List Cell) : Res W := match w with
  | .p (.lam j i) => if j = J then (tryVO tb ms[i]? σ st1).bind headK else .no
  | _ => .no
@[simp] theorem wordVK_e (tb : List (Nat × Str × Option Str)) (J i : Nat) (ms : List EM) : wordVK tb J ms σ (.p (.lam J i)) st = (tryVO tb ms[i]? σ st).bind headK := by simp [wordVK]
@[simp] theorem mWordV_e (tb : List (Nat × Str × Option Str)) (J : Nat) (ms : List EM) (m : EM) : mWordV tb J ms m σ st = (m σ st).bind (wordVK tb J ms σ) := by
  have e : ∀ w st1, (match w with
    | .p (.lam j i) => if j = J then (match ms[i]? with | some b => (mTryL tb b σ st1).bind headK | none => .no) else .no
    | _ => .no : Res W) = wordVK tb J ms σ w st1 := by
    intro w st1
    unfold wordVK tryVO
    cases w with
    | r i => rfl
    | p x =>
      cases x with
      | lam j i =>
        dsimp only
        split
        · cases ms[i]? <;> rfl
        · rfl
      | _ => rfl
  show (m σ st).bind _ = _
  cases m σ st with
  | ok w st1 => exact e w st1
  | exc x st1 => rfl
  | no => rfl
end YZ
namespace YZ
open Y PySem PySem.Spec PyProof.Rows L2
variable {σ σ0 : Sg} {st : List Cell}
@[simp] theorem mLcT_e (m : IM) (t : Tg) (vs : List Nat) (e : Sg → EM) (fin : List W → List Cell → Res W) : mLcT m t vs e fin σ st = mLc m t vs mYes (e σ) fin σ st := rfl
@[simp] theorem tryOo_e (tb : List (Nat × Str × Option Str)) (J : Nat) (ms : List EM) (e : EM) : Y.tryO tb J ms e σ0 σ st = (e σ st).bind (tryVK tb J ms σ0) := by
  have h := mTryV_e (σ := σ0) (st := st) tb J ms (fun _ _ => e σ st)
  exact h
@[simp] theorem wordOo_e (tb : List (Nat × Str × Option Str)) (J : Nat) (ms : List EM) (e : EM) : wordO tb J ms e σ0 σ st = (e σ st).bind (wordVK tb J ms σ0) := by
  have h := mWordV_e (σ := σ0) (st := st) tb J ms (fun _ _ => e σ st)
  exact h
@[simp] theorem vMulL_e (l : List P) (n : Int) : vMulL (.p (.lst l)) (.p (.int n)) st = if 0 ≤ n ∧ n ≤ 1000 ∧ l.length ≤ 1000 then .ok (.p (.lst (List.replicate n.toNat l).flatten)) st else .no := rfl
@[simp] theorem mInvX_e (c : Nat) (F : FM) (a : EM) : mInvX c F a σ st = (a σ st).bind (invRX c F) := rfl
@[simp] theorem invRX_e (c : Nat) (F : FM) (w : W) : invRX c F w st = if clsOf st w = some c then callF F [w] st else .no := rfl
@[simp] theorem mCallE_e (c : Nat) (F : FM) (a : EM) (j : Nat) : mCallE c F a j σ st = (a σ st).bind (callER F c σ[j]?) := rfl
@[simp] theorem callER_e (F : FM) (c : Nat) (x y : W) : callER F c (some (some y)) x st = if clsOf st x = some c then callF F [x, y] st else .no := rfl
@[simp] theorem mCallKwX_e (F : FM) (ix : List Nat) (n : Nat) (a : AM) : mCallKwX F ix n a σ st = (a σ st).bind (kwRX F ix n []) := rfl
@[simp] theorem kwRX_e (F : FM) (ix : List Nat) (n : Nat) (us ws : List W) : kwRX F ix n us ws st = if ws.length = n then callF F (gI ix us ws) st else .no := rfl
@[simp] theorem mMethKwX_e (c : Nat) (F : FM) (ix : List Nat) (n : Nat) (o : EM) (a : AM) : mMethKwX c F ix n o a σ st = (o σ st).bind (kwMX c F ix n a σ) := rfl
@[simp] theorem kwMX_e (c : Nat) (F : FM) (ix : List Nat) (n : Nat) (a : AM) (w : W) : kwMX c F ix n a σ w st = if clsOf st w = some c then (a σ st).bind (kwRX F ix n [w]) else .no := rfl
end YZ
namespace YZ
open Y PySem PySem.Spec PyProof.Rows L2
variable {σ σ0 : Sg} {st : List Cell}
def cmR (c : Nat) (F : FM) (dfl : List P) (ws : List W) : List Cell → Res W := fun st1 => callF F (.p (.cls c) :: (ws ++ dfl.map W.p)) st1
@[simp] theorem mCMeth_e (c : Nat) (F : FM) (dfl : List P) (a : AM) : mCMeth c F dfl a σ st = (a σ st).bind (cmR c F dfl) := rfl
@[simp] theorem cmR_e (c : Nat) (F : FM) (dfl : List P) (ws : List W) : cmR c F dfl ws st = callF F (.p (.cls c) :: (ws ++ dfl.map W.p)) st := rfl
def cmN2 (c : Nat) (F : FM) (ix : List Nat) (np n : Nat) (us ws : List W) : List Cell → Res W := fun st2 => if us.length = np ∧ ws.length = n then callF F (gI ix (.p (.cls c) :: us) ws) st2 else .no
def cmN1 (c : Nat) (F : FM) (ix : List Nat) (np n : Nat) (b : AM) (σ : Sg) (us : List W) : List Cell → Res W := fun st1 => (b σ st1).bind (cmN2 c F ix np n us)
@[simp] theorem mCMethN_e (c : Nat) (F : FM) (ix : List Nat) (np n : Nat) (a b : AM) : mCMethN c F ix np n a b σ st = (a σ st).bind (cmN1 c F ix np n b σ) := rfl
@[simp] theorem cmN1_e (c : Nat) (F : FM) (ix : List Nat) (np n : Nat) (b : AM) (us : List W) : cmN1 c F ix np n b σ us st = (b σ st).bind (cmN2 c F ix np n us) := rfl
@[simp] theorem cmN2_e (c : Nat) (F : FM) (ix : List Nat) (np n : Nat) (us ws : List W) : cmN2 c F ix np n us ws st = if us.length = np ∧ ws.length = n then callF F (gI ix (.p (.cls c) :: us) ws) st else .no := rfl
def cmN0 (c : Nat) (F : FM) (ix : List Nat) (n : Nat) (ws : List W) : List Cell → Res W := fun st2 => if ws.length = n then callF F (gI ix [.p (.cls c)] ws) st2 else .no
@[simp] theorem mCMethN0_e (c : Nat) (F : FM) (ix : List Nat) (n : Nat) (b : AM) : mCMethN0 c F ix n b σ st = (b σ st).bind (cmN0 c F ix n) := rfl
@[simp] theorem cmN0_e (c : Nat) (F : FM) (ix : List Nat) (n : Nat) (ws : List W) : cmN0 c F ix n ws st = if ws.length = n then callF F (gI ix [.p (.cls c)] ws) st else .no := rfl
@[simp] theorem isCls_e (i c : Nat) : isCls i c σ = (match σ[i]? with
  | some (some (.p (.cls d))) => d == c
  | _ => false) := rfl
@[simp] theorem mMakeL_e (i c n : Nat) (F : FM) (a : AM) : mMakeL i c n F a σ st = if isCls i c σ = true then (a σ st).bind (fun ws st1 => makeX c n F ws st1) else .no := rfl
@[simp] theorem vExtend_l (i : Nat) (m : List P) : vExtend (.r i) [.p (.lst m)] st = (match st[i]? with
    | some (.lst l) => if l.length + m.length ≤ LIM then .ok (.p .non) (st.set i (.lst (l ++ m.map W.p))) else .no
    | _ => .no) := rfl
@[simp] theorem vSIndex_e (a b : Str) : vSIndex (.p (.str a)) [.p (.str b)] st = if 0 ≤ Txt.find a b then .ok (.p (.int (Txt.find a b))) st else .no := rfl
@[simp] theorem mFrzD_e (a : EM) : mFrzD a σ st = (a σ st).bind frzDR := rfl
@[simp] theorem frzDR_p (x : P) : frzDR (.p x) st = .ok (.p x) st := rfl
@[simp] theorem frzDR_r (i : Nat) : frzDR (.r i) st = (match st[i]? with
    | some (.dk ks l) => match pures l with
      | some m => .ok (.p (.fd ks m)) (st.set i .dead)
      | none => .no
    | _ => .no) := rfl
def srcDK (w : W) : List Cell → Res Src := fun st => match vSrcD w with
  | some s => .ok s st
  | none => .no
@[simp] theorem mSrcD_e (m : EM) : mSrcD m σ st = (m σ st).bind srcDK := rfl
@[simp] theorem srcDK_e (ks : List Key) (l : List P) : srcDK (.p (.fd ks l)) st = .ok (srcL (ks.map fun k => .p (keyD k))) st := rfl
def dgetD1 (a : EM) (σ : Sg) (w : W) : List Cell → Res W := fun st1 => (a σ st1).bind (dgetD w)
@[simp] theorem mDGetD_e (o a : EM) : mDGetD o a σ st = (o σ st).bind (dgetD1 a σ) := rfl
@[simp] theorem dgetD1_e (a : EM) (w : W) : dgetD1 a σ w st = (a σ st).bind (dgetD w) := rfl
@[simp] theorem dgetD_s (ks : List Key) (l : List P) (z : Str) : dgetD (.p (.fd ks l)) (.p (.str z)) st = (match dkGet ks l (.inr z) with
    | some z => .ok (.p z) st
    | none => .no) := rfl
@[simp] theorem dgetD_i (ks : List Key) (l : List P) (z : Int) : dgetD (.p (.fd ks l)) (.p (.int z)) st = (match dkGet ks l (.inl z) with
    | some z => .ok (.p z) st
    | none => .no) := rfl
@[simp] theorem keyD_r (z : Str) : keyD (.inr z) = .str z := rfl
@[simp] theorem keyD_l (z : Int) : keyD (.inl z) = .int z := rfl
def srcES (w : W) : List Cell → Res Src := fun st1 => match w with
  | .p (.str z) => .ok (srcL (enmL 0 (z.cps.toList.map sChr))) st1
  | _ => .no
@[simp] theorem mEnmS_e (m : EM) : mEnmS m σ st = (m σ st).bind srcES := rfl
@[simp] theorem srcES_e (z : Str) : srcES (.p (.str z)) st = .ok (srcL (enmL 0 (z.cps.toList.map sChr))) st := rfl
end YZ
namespace YZ
open Y PySem PySem.Spec PyProof.Rows L2
variable {σ σ0 : Sg} {st : List Cell}
@[simp] theorem vIsB_e (neg m n : Bool) : vIsB neg (.p (.bl m)) (.p (.bl n)) st = .ok (.p (.bl (if neg = true then !decide (m = n) else decide (m = n)))) st := rfl
def dispN2 (x : W) (y : W) (st2 : List Cell) : Res W := match x with
  | .p z => match nkT z with
    | some _ => .ok (.r st2.length) (st2 ++ [.dn [z] [y]])
    | none => .no
  | _ => .no
def dispN1 (mv : EM) (σ : Sg) (x : W) (st1 : List Cell) : Res W := (mv σ st1).nox.bind (dispN2 x)
@[simp] theorem mDispN_e (mk mv : EM) : mDispN mk mv σ st = (mk σ st).nox.bind (dispN1 mv σ) := rfl
@[simp] theorem dispN1_e (mv : EM) (x : W) : dispN1 mv σ x st = (mv σ st).nox.bind (dispN2 x) := rfl
@[simp] theorem vInC_e (neg : Bool) (z : P) (i : Nat) : vInC neg (.p z) (.r i) st = inCK neg st[i]? z st := rfl
def putN3 (σ : Sg) (x w k : W) (st3 : List Cell) : SR := match w, k with
  | .r i, .p z => putCK i σ st3[i]? z x st3
  | _, _ => .no
def putN2 (ix : EM) (σ : Sg) (x w : W) (st2 : List Cell) : SR := (ix σ st2).to σ (putN3 σ x w)
def putN1 (o ix : EM) (σ : Sg) (x : W) (st1 : List Cell) : SR := (o σ st1).to σ (putN2 ix σ x)
@[simp] theorem sPutN_e (o ix m : EM) : sPutN o ix m σ st = (m σ st).to σ (putN1 o ix σ) := rfl
@[simp] theorem putN1_e (o ix : EM) (x : W) : putN1 o ix σ x st = (o σ st).to σ (putN2 ix σ x) := rfl
@[simp] theorem putN2_e (ix : EM) (x w : W) : putN2 ix σ x w st = (ix σ st).to σ (putN3 σ x w) := rfl
@[simp] theorem putN3_e (x : W) (i : Nat) (z : P) : putN3 σ x (.r i) (.p z) st = putCK i σ st[i]? z x st := rfl
@[simp] theorem vDictN_l (l : List P) : vDictN [.p (.lst l)] st = (match prsP l with
    | some pp => .ok (.p (.fn ((stAll [] pp).map (·.2.1)) ((stAll [] pp).map (·.2.2)))) st
    | none => .no) := rfl
end YZ
namespace YZ
open Y PySem PySem.Spec PyProof.Rows L2
variable {σ σ0 : Sg} {st : List Cell} {ys : List P}
def Sqx (I : Sg → List Cell → Prop) (F : SR → Prop) (r : SR) : Prop := match r with
  | .ok .nx σ st => I σ st
  | .ok .ct σ st => I σ st
  | .ok .bk σ st => F (.ok .nx σ st)
  | .ok (.rt w) σ st => F (.ok (.rt w) σ st)
  | .exc x σ st => F (.exc x σ st)
  | .no => False
@[simp] theorem Sqx_nx (I : Sg → List Cell → Prop) (F : SR → Prop) : Sqx I F (.ok .nx σ st) = I σ st := rfl
@[simp] theorem Sqx_ct (I : Sg → List Cell → Prop) (F : SR → Prop) : Sqx I F (.ok .ct σ st) = I σ st := rfl
@[simp] theorem Sqx_bk (I : Sg → List Cell → Prop) (F : SR → Prop) : Sqx I F (.ok .bk σ st) = F (.ok .nx σ st) := rfl
@[simp] theorem Sqx_rt (I : Sg → List Cell → Prop) (F : SR → Prop) (w : W) : Sqx I F (.ok (.rt w) σ st) = F (.ok (.rt w) σ st) := rfl
@[simp] theorem Sqx_exc (I : Sg → List Cell → Prop) (F : SR → Prop) (x : Exn) : Sqx I F (.exc x σ st) = F (.exc x σ st) := rfl
@[simp] theorem Sqx_no (I : Sg → List Cell → Prop) (F : SR → Prop) : Sqx I F .no = False := rfl
@[simp] theorem Sqx_ite (I : Sg → List Cell → Prop) (F : SR → Prop) {c : Prop} [Decidable c] (a b : SR) : Sqx I F (if c then a else b) = if c then Sqx I F a else Sqx I F b := by split <;> rfl
@[simp] theorem GR.then_nx (k : Sg → List Cell → List P → GR) : (GR.ok .nx σ st ys).then k = k σ st ys := rfl
@[simp] theorem GR.then_rt (w : W) (k : Sg → List Cell → List P → GR) : (GR.ok (.rt w) σ st ys).then k = .ok (.rt w) σ st ys := rfl
@[simp] theorem GR.then_bk (k : Sg → List Cell → List P → GR) : (GR.ok .bk σ st ys).then k = .ok .bk σ st ys := rfl
@[simp] theorem GR.then_ct (k : Sg → List Cell → List P → GR) : (GR.ok .ct σ st ys).then k = .ok .ct σ st ys := rfl
@[simp] theorem GR.then_exc (x : Exn) (k : Sg → List Cell → List P → GR) : (GR.exc x σ st).then k = .exc x σ st := rfl
@[simp] theorem GR.then_no (k : Sg → List Cell → List P → GR) : GR.no.then k = .no := rfl
@[simp] theorem GR.then_ite {c : Prop} [Decidable c] (a b : GR) (k : Sg → List Cell → List P → GR) : (if c then a else b).then k = if c then a.then k else b.then k := by split <;> rfl
@[simp] theorem SR.gr_ok (f : Fl) : (SR.ok f σ st).gr ys = .ok f σ st ys := rfl
@[simp] theorem SR.gr_exc (x : Exn) : (SR.exc x σ st).gr ys = .exc x σ st := rfl
@[simp] theorem SR.gr_no : SR.no.gr ys = .no := rfl
@[simp] theorem Res.gto_ok {α : Type} (a : α) (k : α → List Cell → GR) : (Res.ok a st).gto σ k = k a st := rfl
@[simp] theorem Res.gto_exc {α : Type} (x : Exn) (k : α → List Cell → GR) : (Res.exc x st : Res α).gto σ k = .exc x σ st := rfl
@[simp] theorem Res.gto_no {α : Type} (k : α → List Cell → GR) : (Res.no : Res α).gto σ k = .no := rfl
@[simp] theorem gNx_e : gNx σ st ys = .ok .nx σ st ys := rfl
@[simp] theorem gPl_e (m : SMm) : gPl m σ st ys = (m σ st).gr ys := rfl
@[simp] theorem gSeq_e (a b : GMn) : gSeq a b σ st ys = (a σ st ys).then b := rfl
@[simp] theorem gYl_e (pk : Pjk) (e : EM) : gYl pk e σ st ys = if ys.length < 1000000 then (e σ st).gto σ (gYlK pk σ ys) else .no := rfl
@[simp] theorem pj_id (x : P) : Pjk.pj .id x = some x := rfl
@[simp] theorem pj_fst' (a b : P) : Pjk.pj .fst (.tup [a, b]) = some a := rfl
@[simp] theorem gWhile_e (n : Nat) (c : TM) (b : GMn) : gWhile n c b σ st ys = gWhileF c b n σ st ys := rfl
@[simp] theorem gEnd_nx : gEnd (.ok .nx σ st ys) = .ok (.p (.lst ys)) st := rfl
@[simp] theorem gEnd_exc (x : Exn) : gEnd (.exc x σ st) = .exc x st := rfl
@[simp] theorem gEnd_no : gEnd .no = .no := rfl
@[simp] theorem gEnd_rt : gEnd (.ok (.rt (.p .non)) σ st ys) = .ok (.p (.lst ys)) st := rfl
def Sqg (I : Sg → List Cell → List P → Prop) (F : GR → Prop) (r : GR) : Prop := match r with
  | .ok .nx σ st ys => I σ st ys
  | .ok .ct σ st ys => I σ st ys
  | .ok .bk σ st ys => F (.ok .nx σ st ys)
  | .ok (.rt w) σ st ys => F (.ok (.rt w) σ st ys)
  | .exc x σ st => F (.exc x σ st)
  | .no => False
@[simp] theorem Sqg_nx (I : Sg → List Cell → List P → Prop) (F : GR → Prop) : Sqg I F (.ok .nx σ st ys) = I σ st ys := rfl
@[simp] theorem Sqg_exc (I : Sg → List Cell → List P → Prop) (F : GR → Prop) (x : Exn) : Sqg I F (.exc x σ st) = F (.exc x σ st) := rfl
@[simp] theorem lsE_ok (l : List Nat) (w : W) : lsE l (.ok w st) = .ok w st := rfl
@[simp] theorem lsE_exc (l : List Nat) (x : Exn) : lsE l (.exc x st) = if l.contains x.c = true then .exc x st else .no := rfl
def glsK (l : List Nat) (F : FM) (ws : List W) : List Cell → Res W := fun st1 => lsE l (callF F ws st1)
@[simp] theorem mGLs_e (l : List Nat) (F : FM) (a : AM) : mGLs l F a σ st = (a σ st).bind (glsK l F) := rfl
@[simp] theorem glsK_e (l : List Nat) (F : FM) (ws : List W) : glsK l F ws st = lsE l (callF F ws st) := rfl
def glsO (c : Nat) (l : List Nat) (F : FM) (a : AM) (σ : Sg) (w : W) : List Cell → Res W := fun st1 => if clsOf st1 w = some c then (a σ st1).bind fun ws st2 => lsE l (callF F (w :: ws) st2) else .no
@[simp] theorem mGLsM_e (c : Nat) (l : List Nat) (F : FM) (o : EM) (a : AM) : mGLsM c l F o a σ st = (o σ st).bind (glsO c l F a σ) := rfl
@[simp] theorem glsO_nil (c : Nat) (l : List Nat) (F : FM) (w : W) : glsO c l F mNil σ w st = if clsOf st w = some c then lsE l (callF F [w] st) else .no := rfl
@[simp] theorem mDyn_e (o : EM) (t : List (Nat × EM)) : mDyn o t σ st = dynK t σ st (o σ st) := rfl
@[simp] theorem dynK_ok (t : List (Nat × EM)) (w : W) (st1 : List Cell) : dynK t σ st (.ok w st1) = dynC t σ st (clsOf st1 w) := rfl
@[simp] theorem dynK_exc (c : Nat) (m : EM) (t : List (Nat × EM)) (x : Exn) (st1 : List Cell) : dynK ((c, m) :: t) σ st (.exc x st1) = m σ st := rfl
@[simp] theorem dynC_cons (c d : Nat) (m : EM) (t : List (Nat × EM)) : dynC ((d, m) :: t) σ st (some c) = if c = d then m σ st else dynC t σ st (some c) := by
  unfold dynC
  simp only [List.lookup_cons]
  by_cases h : c = d
  · subst h; simp
  · rw [if_neg h, beq_eq_false_iff_ne.mpr h]
def conK (c : Nat) (x : P) (w : W) : List Cell → Res W := fun st1 => if clsOf st1 w = some c then .ok (.p x) st1 else .no
@[simp] theorem mCon_e (c : Nat) (x : P) (o : EM) : mCon c x o σ st = (o σ st).bind (conK c x) := rfl
@[simp] theorem conK_e (c : Nat) (x : P) (w : W) : conK c x w st = if clsOf st w = some c then .ok (.p x) st else .no := rfl
end YZ
namespace YZ
open PySem PySem.Spec PyProof.Rows L2 Y
variable {σ : Sg} {st : List Cell}
def dgetC2 (w x : W) (st2 : List Cell) : Res W := match w, x with
  | .r i, .p y => match st2[i]?, keyP y with
    | some (.dk ks l), some k => (match dkGet ks l k with
      | some z => .ok z st2
      | none => .no)
    | _, _ => .no
  | _, _ => .no
def dgetCi (c : Option Cell) (o : Option Key) (st2 : List Cell) : Res W := match c, o with
    | some (.dk ks l), some k => (match dkGet ks l k with
      | some z => .ok z st2
      | none => .no)
    | _, _ => .no
@[simp] theorem dgetC2_r (i : Nat) (y : P) : dgetC2 (.r i) (.p y) st = dgetCi st[i]? (keyP y) st := rfl
def dgetC1 (a : EM) (σ : Sg) (w : W) (st1 : List Cell) : Res W := (a σ st1).bind (dgetC2 w)
@[simp] theorem dgetC1_e (a : EM) (w : W) : dgetC1 a σ w st = (a σ st).bind (dgetC2 w) := rfl
@[simp] theorem mDGetC_e (o a : EM) : mDGetC o a σ st = (o σ st).bind (dgetC1 a σ) := by
  unfold mDGetC dgetC1 dgetC2
  rfl
def srtZ (o p : Option (List P)) (st2 : List Cell) : Res W := match o, p with
  | some l, some m => if (zipT l m).length ≤ LIM ∧ srtOk (zipT l m) = true then .ok (.p (.lst (srtD (zipT l m)))) st2 else .no
  | _, _ => .no
def srtZ2 (x y : W) (st2 : List Cell) : Res W := srtZ (zItems x) (zItems y) st2
@[simp] theorem srtZ2_e (x y : W) : srtZ2 x y st = srtZ (zItems x) (zItems y) st := rfl
def srtZ1 (b : EM) (σ : Sg) (x : W) (st1 : List Cell) : Res W := (b σ st1).bind (srtZ2 x)
@[simp] theorem srtZ1_e (b : EM) (x : W) : srtZ1 b σ x st = (b σ st).bind (srtZ2 x) := rfl
@[simp] theorem mSortZ_e (a b : EM) : mSortZ a b σ st = (a σ st).bind (srtZ1 b σ) := by
  unfold mSortZ srtZ1 srtZ2 srtZ
  rfl
end YZ
namespace YZ
open PySem PySem.Spec PyProof.Rows L2 Y NS
variable {σ : Sg} {st : List Cell}
@[simp] theorem mSrtSet_e (a : EM) : mSrtSet a σ st = (a σ st).bind vSrtSet := rfl
@[simp] theorem mLenSet_e (a : EM) : mLenSet a σ st = (a σ st).bind vLenSet := rfl
@[simp] theorem vMulC_e (l : List P) (n : Int) : vMulC (.p (.lst l)) (.p (.int n)) st = if 0 ≤ n ∧ n ≤ 1000 ∧ l.length ≤ 1000 then .ok (.r st.length) (st ++ [.lst ((List.replicate n.toNat l).flatten.map .p)]) else .no := rfl
def augE (σ : Sg) (i : Nat) (n : Int) (r : Res W) : SR := match r with
  | .ok z st5 => augSet σ i n z st5
  | _ => .no
def augM (f : W → W → List Cell → Res W) (σ : Sg) (i : Nat) (n : Int) (x y : W) (st4 : List Cell) : SR := augE σ i n (f x y st4)
@[simp] theorem augM_e (f : W → W → List Cell → Res W) (i : Nat) (n : Int) (x y : W) : augM f σ i n x y st = augE σ i n (f x y st) := rfl
@[simp] theorem augE_ok (i : Nat) (n : Int) (z : W) : augE σ i n (.ok z st) = augSet σ i n z st := rfl
def augG (f : W → W → List Cell → Res W) (m : EM) (σ : Sg) (i : Nat) (n : Int) (st2 : List Cell) (o : Option W) : SR := match o with
  | some x => (m σ st2).to σ (augM f σ i n x)
  | none => .no
@[simp] theorem augG_some (f : W → W → List Cell → Res W) (m : EM) (i : Nat) (n : Int) (x : W) : augG f m σ i n st (some x) = (m σ st).to σ (augM f σ i n x) := rfl
def augI (f : W → W → List Cell → Res W) (m : EM) (σ : Sg) (w k : W) (st2 : List Cell) : SR := match w, k with
  | .r i, .p (.int n) => augG f m σ i n st2 (augGet i n st2)
  | _, _ => .no
@[simp] theorem augI_e (f : W → W → List Cell → Res W) (m : EM) (i : Nat) (n : Int) : augI f m σ (.r i) (.p (.int n)) st = augG f m σ i n st (augGet i n st) := rfl
def augO (f : W → W → List Cell → Res W) (ix m : EM) (σ : Sg) (w : W) (st1 : List Cell) : SR := (ix σ st1).to σ (augI f m σ w)
@[simp] theorem augO_e (f : W → W → List Cell → Res W) (ix m : EM) (w : W) : augO f ix m σ w st = (ix σ st).to σ (augI f m σ w) := rfl
@[simp] theorem sAugIx_e (f : W → W → List Cell → Res W) (o ix m : EM) : sAugIx f o ix m σ st = (o σ st).to σ (augO f ix m σ) := by
  unfold sAugIx augO augI augG augM augE
  rfl
end YZ
namespace YS
open PySem PySem.Spec PyProof.Rows L2 Y YZ NS
mutual
theorem eqv_nk : ∀ a b : NestedKey, PyData.eqv a.data b.data = true ↔ a = b
  | .none, .none => by simp [NestedKey.data, PyData.eqv]
  | .num i, .num j => by simp [NestedKey.data, PyData.eqv]
  | .text x, .text y => by simp [NestedKey.data, PyData.eqv]
  | .tup ks, .tup ls => by
    simp only [NestedKey.data, PyData.eqv, eqvs_nk ks ls, NestedKey.tup.injEq]
  | .none, .num _ => by simp [NestedKey.data, PyData.eqv]
  | .none, .text _ => by simp [NestedKey.data, PyData.eqv]
  | .none, .tup _ => by simp [NestedKey.data, PyData.eqv]
  | .num _, .none => by simp [NestedKey.data, PyData.eqv]
  | .num _, .text _ => by simp [NestedKey.data, PyData.eqv]
  | .num _, .tup _ => by simp [NestedKey.data, PyData.eqv]
  | .text _, .none => by simp [NestedKey.data, PyData.eqv]
  | .text _, .num _ => by simp [NestedKey.data, PyData.eqv]
  | .text _, .tup _ => by simp [NestedKey.data, PyData.eqv]
  | .tup _, .none => by simp [NestedKey.data, PyData.eqv]
  | .tup _, .num _ => by simp [NestedKey.data, PyData.eqv]
  | .tup _, .text _ => by simp [NestedKey.data, PyData.eqv]
theorem eqvs_nk : ∀ ks ls : List NestedKey, PyData.eqvAll (NestedKey.datas ks) (NestedKey.datas ls) = true ↔ ks = ls
  | [], [] => by simp [NestedKey.datas, PyData.eqvAll]
  | [], _ :: _ => by simp [NestedKey.datas, PyData.eqvAll]
  | _ :: _, [] => by simp [NestedKey.datas, PyData.eqvAll]
  | k :: ks, l :: ls => by
    simp only [NestedKey.datas, PyData.eqvAll, Bool.and_eq_true, eqv_nk k l, eqvs_nk ks ls, List.cons.injEq]
end
structure Kys (l : List P) : Prop where
  ok : ∀ x ∈ l, nkT x = some (nkOf x)
  few : l.length < 64
  srt : srtOk l = true
  lay : ∀ x ∈ l, (nkOf x).data.canLay0 = true
theorem Kys.set {l : List P} (h : Kys l) : setOk l = true := by
  unfold setOk
  rw [Bool.and_eq_true, decide_eq_true_eq]
  exact ⟨List.all_eq_true.mpr fun x hx => by rw [h.ok x hx]; rfl, h.few⟩
def ord (l : List P) : List P := srtD (ddK l)
def pos (l : List P) (x : P) : Nat := (ord l).findIdx fun y => decide (nkOf y = nkOf x)
mutual
theorem depth_nk : ∀ k : NestedKey, k.data.depth = k.depth
  | .none => by rw [NestedKey.data, PyData.depth, NestedKey.depth]
  | .num _ => by rw [NestedKey.data, PyData.depth, NestedKey.depth]
  | .text _ => by rw [NestedKey.data, PyData.depth, NestedKey.depth]
  | .tup ks => by rw [NestedKey.data, PyData.depth, NestedKey.depth, depths_nk ks]
theorem depths_nk : ∀ ks : List NestedKey, PyData.depthAll (NestedKey.datas ks) = NestedKey.depthAll ks
  | [] => by rw [NestedKey.datas, PyData.depthAll, NestedKey.depthAll]
  | k :: ks => by rw [NestedKey.datas, PyData.depthAll, NestedKey.depthAll, depth_nk k, depths_nk ks]
end
end YS
namespace YZ
open Y PySem PySem.Spec PyProof.Rows L2
def bagC (ns : List Int) (a b s : Int) : Cell := .lst [.p (.lst (ns.map .int)), .p (.int a), .p (.int b), .p (.int s)]
def GB (c : Cell) : Prop := ∃ ns a b s, c = bagC ns a b s ∧ 0 ≤ a ∧ 0 ≤ b ∧ 0 ≤ s ∧ s < 2147483587
theorem GB.plain {c : Cell} (h : GB c) : plainC c = true := by
  obtain ⟨ns, a, b, s, rfl, _⟩ := h
  rfl
def Gb (R : P → Prop) (r : Res W) : Prop := match r with
  | .ok (.p x) (c :: _) => GB c ∧ R x
  | _ => False
@[simp] theorem Gb_ok (R : P → Prop) (x : P) (c : Cell) (l : List Cell) : Gb R (.ok (.p x) (c :: l)) = (GB c ∧ R x) := rfl
@[simp] theorem Gb_ite {R : P → Prop} {c : Prop} [Decidable c] (a b : Res W) : Gb R (if c then a else b) = if c then Gb R a else Gb R b := by split <;> rfl
@[simp] theorem Gb_no (R : P → Prop) : Gb R .no = False := rfl
theorem Gb.ex {R : P → Prop} {r : Res W} (h : Gb R r) : ∃ x c l, r = .ok (.p x) (c :: l) ∧ GB c ∧ R x := by
  unfold Gb at h
  split at h
  · exact ⟨_, _, _, rfl, h.1, h.2⟩
  · exact h.elim
def Bg (F : FM) (xs : List P) (R : P → Prop) : Prop := ∀ c, GB c → Gb R (F (.r 0 :: xs.map W.p) [c])
theorem Bg.call {F : FM} {xs : List P} {R : P → Prop} (h : Bg F xs R) {c : Cell} (g : GB c) (rest : List Cell) : ∃ x c', callF F (.r 0 :: xs.map W.p) (c :: rest) = .ok (.p x) (c' :: rest) ∧ GB c' ∧ R x := by
  obtain ⟨x, c', l, e, g', hr⟩ := Gb.ex (h c g)
  refine ⟨x, c', ?_, g', hr⟩
  have e1 : argRefs (.r 0 :: xs.map W.p) = [0] := by show 0 :: argRefs (xs.map W.p) = _; rw [argRefs_pure]
  have e2 : argIn 0 (.r 0 :: xs.map W.p) = .r 0 :: xs.map W.p := by show W.r 0 :: argIn 1 (xs.map W.p) = _; rw [argIn_pure]
  unfold callF
  rw [e1, if_pos (by simp), e2]
  simp [Y.getCells, g.plain, e, Y.callEnd, Y.putCells, g'.plain]
theorem Bg.call0 {F : FM} {R : P → Prop} (h : Bg F [] R) {c : Cell} (g : GB c) (rest : List Cell) : ∃ x c', callF F [.r 0] (c :: rest) = .ok (.p x) (c' :: rest) ∧ GB c' ∧ R x := h.call g rest
theorem Bg.call1 {F : FM} {y : P} {R : P → Prop} (h : Bg F [y] R) {c : Cell} (g : GB c) (rest : List Cell) : ∃ x c', callF F [.r 0, .p y] (c :: rest) = .ok (.p x) (c' :: rest) ∧ GB c' ∧ R x := h.call g rest
theorem Bg.call2 {F : FM} {y z : P} {R : P → Prop} (h : Bg F [y, z] R) {c : Cell} (g : GB c) (rest : List Cell) : ∃ x c', callF F [.r 0, .p y, .p z] (c :: rest) = .ok (.p x) (c' :: rest) ∧ GB c' ∧ R x := h.call g rest
theorem Bg.call3 {F : FM} {y z u : P} {R : P → Prop} (h : Bg F [y, z, u] R) {c : Cell} (g : GB c) (rest : List Cell) : ∃ x c', callF F [.r 0, .p y, .p z, .p u] (c :: rest) = .ok (.p x) (c' :: rest) ∧ GB c' ∧ R x := h.call g rest
end YZ
namespace YS
open PySem PySem.Spec PyProof.Rows L2 Y YZ
def sm_law_bag : FM := runF 1 3 (sSeq (sSet 1 (mC (.int 3845)))
    (sSeq (sFor (mSrc (mSl (mVar 0) oNone (oSome (mC (.int 63))))) (.nm 2) (sSet 1 (mBin vMod (mCallV vInt (mCons (mBin vAdd (mBin vAdd (mBin vMulI (mVar 1) (mC (.int 48611))) (mBin vMod (mCallV vInt (mCons (mVar 2) mNil)) (mC (.int 2147483423)))) (mC (.int 31))) mNil)) (mC (.int 2147483587)))))
    (sRet (mLstC (mCons (mCallV vLstOf (mCons (mSl (mVar 0) oNone (oSome (mC (.int 63)))) mNil)) (mCons (mC (.int 0)) (mCons (mC (.int 0)) (mCons (mVar 1) mNil))))))))
def sm_law_pull : FM := runF 2 5 (sSeq (sIf (mAndT (mTst (mBin (vEqB false) (mBin vIx (mVar 0) (mC (.int 2))) (mC (.int 0)))) (mTst (mBin vLt (mBin vIx (mVar 0) (mC (.int 1))) (mCallV vLen (mCons (mBin vIx (mVar 0) (mC (.int 0))) mNil))))) (sSeq (sSet 3 (mBin vIx (mBin vIx (mVar 0) (mC (.int 0))) (mBin vIx (mVar 0) (mC (.int 1)))))
    (sSeq (sSetIx (mVar 0) (mC (.int 1)) (mBin vAdd (mBin vIx (mVar 0) (mC (.int 1))) (mC (.int 1))))
    (sIf (mTst (mBin vGe (mVar 3) (mBin vPow (mC (.int 10)) (mC (.int 18))))) (sSetIx (mVar 0) (mC (.int 2)) (mVar 3)) (sSetIx (mVar 0) (mC (.int 3)) (mBin vMod (mCallV vInt (mCons (mBin vAdd (mBin vAdd (mBin vMulI (mBin vIx (mVar 0) (mC (.int 3))) (mC (.int 45989))) (mBin vMulI (mBin vMod (mCallV vInt (mCons (mVar 3) mNil)) (mC (.int 2147483423))) (mC (.int 1409)))) (mC (.int 23))) mNil)) (mC (.int 2147483587))))))) sNx)
    (sSeq (sIf (mTst (mBin vGt (mBin vIx (mVar 0) (mC (.int 2))) (mC (.int 0)))) (sSeq (sSet 4 (mBin vMod (mCallV vInt (mCons (mBin vIx (mVar 0) (mC (.int 2))) mNil)) (mVar 1)))
    (sSeq (sSetIx (mVar 0) (mC (.int 2)) (mBin vFdv (mBin vIx (mVar 0) (mC (.int 2))) (mVar 1)))
    (sRet (mVar 4)))) sNx)
    (sSeq (sSet 2 (mBin vIx (mVar 0) (mC (.int 3))))
    (sSeq (sSetIx (mVar 0) (mC (.int 3)) (mBin vMod (mCallV vInt (mCons (mBin vAdd (mBin vAdd (mBin vMulI (mVar 2) (mVar 2)) (mBin vMulI (mVar 2) (mC (.int 31013)))) (mC (.int 1400033))) mNil)) (mC (.int 2147483587))))
    (sRet (mBin vMod (mCallV vInt (mCons (mBin vAdd (mBin vFdv (mBin vIx (mVar 0) (mC (.int 3))) (mC (.int 71))) (mBin vMulI (mBin vMod (mCallV vInt (mCons (mBin vIx (mVar 0) (mC (.int 3))) mNil)) (mC (.int 8087))) (mC (.int 61)))) mNil)) (mVar 1)))))))
def sm_law_of : FM := runF 2 2 (sRet (mBin vIx (mVar 1) (mCallF sm_law_pull (mCons (mVar 0) (mCons (mCallV vLen (mCons (mVar 1) mNil)) mNil)))))
theorem pull_mod {n : Int} (h0 : 0 < n) (z : Int) : 0 ≤ z % n ∧ z % n < n := ⟨Int.emod_nonneg _ (by omega), Int.emod_lt_of_pos _ h0⟩
theorem GB.mk {ns : List Int} {a b s : Int} (ha : 0 ≤ a) (hb : 0 ≤ b) (hs : 0 ≤ s ∧ s < 2147483587) : GB (Cell.lst [W.p (P.lst (List.map P.int ns)), W.p (P.int a), W.p (P.int b), W.p (P.int s)]) := ⟨ns, a, b, s, rfl, ha, hb, hs.1, hs.2⟩
theorem pull_bg {n : Int} (h0 : 0 < n) (h1 : n.natAbs.log2 < 9000) : Bg sm_law_pull [.int n] fun x => ∃ k : Int, x = .int k ∧ 0 ≤ k ∧ k < n := by
  rintro c ⟨ns, a, b, s, rfl, ha, hb, hs, hs2⟩
  have m1 : mulOk s 45989 = true := mulOk_of (Sm.small (by omega)) (Sm.small (by omega))
  have m2 : ∀ z : Int, mulOk (z % 2147483423) 1409 = true := fun z => mulOk_of (Sm.small (by omega)) (Sm.small (by omega))
  have m3 : ∀ z : Int, mulOk (z % 2147483587) (z % 2147483587) = true := fun z => mulOk_of (Sm.small (by omega)) (Sm.small (by omega))
  have m4 : ∀ z : Int, mulOk (z % 2147483587) 31013 = true := fun z => mulOk_of (Sm.small (by omega)) (Sm.small (by omega))
  have m5 : ∀ z : Int, mulOk (z % 8087) 61 = true := fun z => mulOk_of (Sm.small (by omega)) (Sm.small (by omega))
  have m6 : mulOk s s = true := mulOk_of (Sm.small (by omega)) (Sm.small (by omega))
  have m7 : mulOk s 31013 = true := mulOk_of (Sm.small (by omega)) (Sm.small (by omega))
  have l71 : Nat.log2 71 < 9000 := by decide
  have pm := pull_mod h0
  have p7 := pull_mod (n := 2147483587) (by decide)
  have qn : 0 ≤ b / n := Int.ediv_nonneg hb (by omega)
  by_cases hc : b = 0 ∧ a < ns.length
  · obtain ⟨rfl, hl⟩ := hc
    have hx : L2.atI (ns.map P.int) a = some (.int (ns[a.toNat]'(by omega))) := by
      rw [atI_nat ha, List.getElem?_map, List.getElem?_eq_getElem (by omega)]; rfl
    generalize ns[a.toNat]'(by omega) = x at hx
    by_cases hb2 : (1000000000000000000 : Int) ≤ x
    · have hx0 : 0 < x := by omega
      have hxn : 0 ≤ x / n := Int.ediv_nonneg (by omega) (by omega)
      simp [sm_law_pull, runF_e, bagC, hl, hx, hb2, hx0, h0, h1, GB.mk (show 0 ≤ a + 1 by omega) hxn ⟨hs, hs2⟩, pm]
    · simp [sm_law_pull, runF_e, bagC, hl, hx, hb2, m1, m2, m3, m4, m5, l71, h0, h1, GB.mk (show 0 ≤ a + 1 by omega) (Int.le_refl 0) (p7 _), pm]
  · have hc' : b = 0 → ¬ a < ns.length := fun e h => hc ⟨e, h⟩
    by_cases hb0 : b = 0
    · subst hb0
      simp [sm_law_pull, runF_e, bagC, hc' rfl, m6, m7, m5, l71, h0, h1, GB.mk ha (Int.le_refl 0) (p7 _), pm]
    · have hb1 : 0 < b := by omega
      simp [sm_law_pull, runF_e, bagC, hb0, hb1, h0, h1, GB.mk ha qn ⟨hs, hs2⟩, pm]
theorem bag_make (ns : List Int) : ∃ c, callF sm_law_bag [.p (.scr ns)] [] = .ok (.r 0) [c] ∧ GB c := by
  have e2 : ∃ s, sm_law_bag [.p (.scr ns)] [] = .ok (.r 0) [bagC (ns.take 63) 0 0 s] ∧ 0 ≤ s ∧ s < 2147483587 := by
    simp [sm_law_bag, runF_e]
    refine forL_rule (fun r => ∃ s : Int, runR (r.then _) = Res.ok (W.r 0) [bagC (List.take 63 ns) 0 0 s] ∧ 0 ≤ s ∧ s < 2147483587) (fun _ σ st => ∃ s x, σ = [some (.p (.scr ns)), some (.p (.int s)), x] ∧ st = [] ∧ 0 ≤ s ∧ s < 2147483587) ⟨3845, none, rfl, rfl, by decide, by decide⟩ ?_ ?_
    · rintro i w σ st hw ⟨s, x, rfl, rfl, h1, h2⟩
      have hm := List.mem_of_mem_take (List.mem_of_getElem? hw)
      obtain ⟨z, hz, rfl⟩ := List.mem_map.mp hm
      have m1 : mulOk s 48611 = true := mulOk_of (Sm.small (by omega)) (Sm.small (by omega))
      conv => arg 3; simp [m1]
      exact ⟨_, _, rfl, rfl, by omega, by omega⟩
    · rintro σ st ⟨s, x, rfl, rfl, h1, h2⟩
      refine ⟨s, ?_, h1, h2⟩
      simp [bagC]
  obtain ⟨s, e2, h1, h2⟩ := e2
  refine ⟨bagC (ns.take 63) 0 0 s, ?_, ns.take 63, 0, 0, s, rfl, by decide, by decide, h1, h2⟩
  unfold callF
  simp [argRefs, argIn, Y.getCells, e2, Y.callEnd, Y.putCells, bagC, plainC, content]
theorem small_log {n : Int} (h0 : 0 ≤ n) (h : n ≤ 1000000000) : n.natAbs.log2 < 9000 := Nat.lt_trans (log2_lt (k := 30) (by have : (2:Nat)^30 = 1073741824 := rfl; omega) (by decide)) (by decide)
theorem of_bg {l : List P} (h : l ≠ []) (h1 : l.length ≤ 1000000) : Bg sm_law_of [.lst l] fun x => x ∈ l := by
  intro c hc
  have hl : 0 < l.length := List.length_pos_iff.mpr h
  obtain ⟨r, c', e, hc', k, rfl, k0, k1⟩ := (pull_bg (n := l.length) (by omega) (small_log (by omega) (by omega))).call1 hc []
  have hk : L2.atI l k = some (l[k.toNat]'(by omega)) := by rw [atI_nat k0, List.getElem?_eq_getElem (by omega)]
  simp [sm_law_of, runF_e, e, hk, hc']
end YS
namespace YS
open PySem PySem.Spec PyProof.Rows L2 Y YZ
def EI (m a b : Nat) : Prop := b < 2 ^ 300 ∧ (m = 601 ∨ (b < a ∧ a * b < 2 ^ m ∧ m ≤ 600))
theorem EI.step {m a b : Nat} (h : EI m a b) (hb : 0 < b) : ∃ m', m' < m ∧ EI m' b (a % b) := by
  obtain ⟨h1, h2⟩ := h
  have hr := Nat.mod_lt a hb
  rcases h2 with rfl | ⟨h2, h3, h4⟩
  · refine ⟨600, by omega, Nat.lt_trans hr h1, .inr ⟨hr, ?_, Nat.le_refl _⟩⟩
    have : b * (a % b) < 2 ^ 300 * 2 ^ 300 := Nat.mul_lt_mul_of_lt_of_le h1 (Nat.le_of_lt (Nat.lt_trans hr h1)) (by decide)
    rwa [← Nat.pow_add] at this
  · have m0 : 0 < m := by
      apply Nat.pos_of_ne_zero
      rintro rfl
      have : 0 < a * b := Nat.mul_pos (by omega) hb
      omega
    have half : 2 * (a % b) < a ∨ a % b = 0 := by
      have e := Nat.div_add_mod a b
      have : 1 ≤ a / b := (Nat.one_le_div_iff hb).mpr (by omega)
      have : b * 1 ≤ b * (a / b) := Nat.mul_le_mul_left _ this
      left
      omega
    obtain ⟨k, rfl⟩ : ∃ k, m = k + 1 := ⟨m - 1, by omega⟩
    refine ⟨k, by omega, Nat.lt_trans hr h1, .inr ⟨hr, ?_, by omega⟩⟩
    have e2 : 2 ^ (k + 1) = 2 * 2 ^ k := Nat.pow_succ'
    rcases half with half | half
    · have : b * (2 * (a % b)) ≤ b * a := Nat.mul_le_mul_left _ (by omega)
      have e3 : b * (2 * (a % b)) = 2 * (b * (a % b)) := by rw [Nat.mul_left_comm]
      have e4 : b * a = a * b := Nat.mul_comm _ _
      omega
    · rw [half, Nat.mul_zero]
      exact Nat.pow_pos (by decide)
def gcdL (g : Nat) (L : List Int) : Nat := L.foldl (fun g x => Nat.gcd g x.natAbs) g
end YS
namespace YS
open PySem PySem.Spec PyProof.Rows L2 Y YZ
abbrev Arcs := List (Int × Int)
inductive Rch (A : Arcs) (a : Int) : Int → Prop
  | refl : Rch A a a
  | step {b c : Int} : Rch A a b → (b, c) ∈ A → Rch A a c
theorem Rch.trans {A : Arcs} {a b c : Int} (h : Rch A a b) (k : Rch A b c) : Rch A a c := by
  induction k with
  | refl => exact h
  | step _ m ih => exact .step ih m
theorem Rch.mono {A B : Arcs} (s : ∀ q ∈ A, q ∈ B) {a b : Int} (h : Rch A a b) : Rch B a b := by
  induction h with
  | refl => exact .refl
  | step _ m ih => exact .step ih (s _ m)
def swp (q : Int × Int) : Int × Int := (q.2, q.1)
theorem Rch.back {A : Arcs} {a b : Int} (h : Rch A a b) : Rch (A.map swp) b a := by
  induction h with
  | refl => exact .refl
  | @step b c _ m ih => exact Rch.trans (.step .refl (List.mem_map.mpr ⟨(b, c), m, rfl⟩)) ih
def InN (n : Nat) (A : Arcs) : Prop := ∀ q ∈ A, 0 ≤ q.1 ∧ q.1 < n ∧ 0 ≤ q.2 ∧ q.2 < n
theorem InN.swp {n : Nat} {A : Arcs} (h : InN n A) : InN n (A.map swp) := fun q hq => by
  obtain ⟨p, hp, rfl⟩ := List.mem_map.mp hq
  obtain ⟨h1, h2, h3, h4⟩ := h p hp
  exact ⟨h3, h4, h1, h2⟩
def Conn (n : Nat) (A : Arcs) : Prop := ∀ a b : Int, 0 ≤ a → a < n → 0 ≤ b → b < n → Rch A a b
theorem Conn.swp {n : Nat} {A : Arcs} (h : Conn n A) : Conn n (A.map swp) := fun a b a0 a1 b0 b1 => (h b a b0 b1 a0 a1).back
theorem Conn.mono {n : Nat} {A B : Arcs} (h : Conn n A) (s : ∀ q ∈ A, q ∈ B) : Conn n B := fun a b a0 a1 b0 b1 => (h a b a0 a1 b0 b1).mono s
theorem nodup_len {α : Type} [DecidableEq α] : ∀ (l D : List α), l.Nodup → (∀ x ∈ l, x ∈ D) → l.length ≤ D.length
  | [], _, _, _ => Nat.zero_le _
  | x :: l, D, hn, hs => by
    obtain ⟨h1, h2⟩ := List.nodup_cons.mp hn
    have hx : x ∈ D := hs x List.mem_cons_self
    have ih := nodup_len l (D.erase x) h2 fun y hy => by
      have hne : y ≠ x := fun e => h1 (e ▸ hy)
      exact (List.mem_erase_of_ne hne).2 (hs y (List.mem_cons_of_mem _ hy))
    have e := List.length_erase_of_mem hx
    have := List.length_pos_of_mem hx
    rw [List.length_cons]
    omega
def nodes (n : Nat) : List Int := (List.range n).map fun (i : Nat) => (i : Int)
theorem mem_nodes {n : Nat} {x : Int} : x ∈ nodes n ↔ 0 ≤ x ∧ x < n := by
  unfold nodes
  rw [List.mem_map]
  constructor
  · rintro ⟨i, hi, rfl⟩
    have := List.mem_range.mp hi
    omega
  · rintro ⟨h1, h2⟩
    exact ⟨x.toNat, List.mem_range.mpr (by omega), by omega⟩
theorem nodes_len (n : Nat) : (nodes n).length = n := by unfold nodes; simp
structure RL (n : Nat) (A : Arcs) (b : Int) (l : List Int) : Prop where
  nd : l.Nodup
  mem : ∀ x, x ∈ l ↔ Rch A b x
  inn : ∀ x ∈ l, 0 ≤ x ∧ x < n
theorem RL.le {n : Nat} {A : Arcs} {b : Int} {l : List Int} (h : RL n A b l) : l.length ≤ n := by
  have := nodup_len l (nodes n) h.nd fun x hx => mem_nodes.mpr (h.inn x hx)
  rwa [nodes_len] at this
structure Bfs (n : Nat) (A : Arcs) (b : Int) (l : List Int) (i : Nat) : Prop where
  nd : l.Nodup
  inn : ∀ x ∈ l, 0 ≤ x ∧ x < n
  rch : ∀ x ∈ l, Rch A b x
  beg : b ∈ l
  dn : ∀ (j : Nat) (x y : Int), j < i → l[j]? = some x → (x, y) ∈ A → y ∈ l
theorem Bfs.start {n : Nat} {A : Arcs} {b : Int} (h0 : 0 ≤ b) (h1 : b < n) : Bfs n A b [b] 0 :=
  ⟨by simp, fun x hx => by simp at hx; subst hx; exact ⟨h0, h1⟩, fun x hx => by simp at hx; subst hx; exact .refl, by simp, fun j x y hj => by omega⟩
theorem Bfs.le {n : Nat} {A : Arcs} {b : Int} {l : List Int} {i : Nat} (h : Bfs n A b l i) : l.length ≤ n := by
  have := nodup_len l (nodes n) h.nd fun x hx => mem_nodes.mpr (h.inn x hx)
  rwa [nodes_len] at this
theorem Bfs.fin {n : Nat} {A : Arcs} {b : Int} {l : List Int} {i : Nat} (h : Bfs n A b l i) (hi : l.length ≤ i) : RL n A b l := by
  refine ⟨h.nd, fun x => ⟨h.rch x, fun r => ?_⟩, h.inn⟩
  induction r with
  | refl => exact h.beg
  | @step c d _ m ih =>
    obtain ⟨j, hj⟩ := List.getElem?_of_mem ih
    exact h.dn j c d (by have := (List.getElem?_eq_some_iff.mp hj).1; omega) hj m
theorem Bfs.more {n : Nat} {A : Arcs} {b : Int} {l : List Int} {y : Int} {i : Nat} (h : Bfs n A b l i) (hi : i ≤ l.length) (hy : y ∉ l) (y0 : 0 ≤ y ∧ y < n) (yr : Rch A b y) : Bfs n A b (l ++ [y]) i := by
  refine ⟨List.nodup_append.mpr ⟨h.nd, by simp, fun a ha c hc => ?_⟩, fun x hx => ?_, fun x hx => ?_, List.mem_append_left _ h.beg, fun j x z hj e a => ?_⟩
  · simp at hc
    subst hc
    exact fun e => hy (e ▸ ha)
  · rcases List.mem_append.mp hx with hx | hx
    · exact h.inn x hx
    · simp at hx; subst hx; exact y0
  · rcases List.mem_append.mp hx with hx | hx
    · exact h.rch x hx
    · simp at hx; subst hx; exact yr
  · rw [List.getElem?_append_left (by omega)] at e
    exact List.mem_append_left _ (h.dn j x z hj e a)
theorem Bfs.next {n : Nat} {A : Arcs} {b : Int} {l : List Int} {i : Nat} {u : Int} (h : Bfs n A b l i) (hu : l[i]? = some u) (all : ∀ y, (u, y) ∈ A → y ∈ l) : Bfs n A b l (i + 1) := by
  refine ⟨h.nd, h.inn, h.rch, h.beg, fun j x y hj e a => ?_⟩
  by_cases hl : j < i
  · exact h.dn j x y hl e a
  · obtain rfl : j = i := by omega
    rw [hu] at e
    cases e
    exact all y a
end YS
namespace YS
open PySem PySem.Spec PyProof.Rows L2 Y YZ
def tab_SIGNS_OF : List (Str × Str) := [("at least", ">="), ("at most", "<="), ("equal", "=")]
def sm_is_number : FM := runF 1 1 (sRet (mAndV (mIsi "int" (mVar 0)) (mNotV (mIsi "bool" (mVar 0)))))
def sm_is_within : FM := runF 3 3 (sRet (mAndV (mCallF sm_is_number (mCons (mVar 0) mNil)) (mChain vLe vLe (mVar 1) (mVar 0) (mVar 2))))
inductive Wd where
  | ge | le | eq
def Wd.s : Wd → Str
  | .ge => Str.ofString "at least"
  | .le => Str.ofString "at most"
  | .eq => Str.ofString "equal"
inductive Tr where
  | at (w : Wd) (a b c n : Int)
  | rest (a b c d n : Int)
  | no (t : Tr)
  | op (b : Bool) (l : List Tr)
abbrev T3 (a b c : Int) : P := .tup [.int a, .int b, .int c]
def opw (b : Bool) : Str := if b = true then Str.ofString "and" else Str.ofString "or"
mutual
def Tr.enc : Tr → P
  | .at w a b c n => .tup [.str w.s, T3 a b c, .int n]
  | .rest a b c d n => .tup [.str (Str.ofString "rest"), T3 a b c, .int d, .int n]
  | .no t => .tup [.str (Str.ofString "not"), t.enc]
  | .op b l => .tup (.str (opw b) :: Tr.encs l)
def Tr.encs : List Tr → List P
  | [] => []
  | t :: l => t.enc :: Tr.encs l
end
mutual
def Tr.depth : Tr → Nat
  | .at .. => 1
  | .rest .. => 1
  | .no t => t.depth + 1
  | .op _ l => Tr.depths l + 1
def Tr.depths : List Tr → Nat
  | [] => 0
  | t :: l => max t.depth (Tr.depths l)
end
mutual
def Tr.atoms : Tr → List Tr
  | .at w a b c n => [.at w a b c n]
  | .rest a b c d n => [.rest a b c d n]
  | .no t => t.atoms
  | .op _ l => Tr.atomss l
def Tr.atomss : List Tr → List Tr
  | [] => []
  | t :: l => t.atoms ++ Tr.atomss l
end
mutual
def Tr.ev (g : Tr → Bool) : Tr → Bool
  | .at w a b c n => g (.at w a b c n)
  | .rest a b c d n => g (.rest a b c d n)
  | .no t => !t.ev g
  | .op b l => if b = true then (Tr.evs g l).all id else (Tr.evs g l).any id
def Tr.evs (g : Tr → Bool) : List Tr → List Bool
  | [] => []
  | t :: l => t.ev g :: Tr.evs g l
end
def F3 (a b c : Int) : Prop := (-3 ≤ a ∧ a ≤ 3) ∧ (-3 ≤ b ∧ b ≤ 3) ∧ (-3 ≤ c ∧ c ≤ 3) ∧ ¬ (a = 0 ∧ b = 0 ∧ c = 0)
mutual
def Tr.good : Tr → Prop
  | .at _ a b c n => F3 a b c ∧ -9 ≤ n ∧ n ≤ 9
  | .rest a b c d n => F3 a b c ∧ 2 ≤ d ∧ d ≤ 5 ∧ 0 ≤ n ∧ n < d
  | .no t => t.good
  | .op _ l => 2 ≤ l.length ∧ l.length ≤ 4 ∧ Tr.goods l
def Tr.goods : List Tr → Prop
  | [] => True
  | t :: l => t.good ∧ Tr.goods l
end
theorem encs_map : ∀ l : List Tr, Tr.encs l = l.map Tr.enc
  | [] => rfl
  | t :: l => by rw [Tr.encs, encs_map l]; rfl
theorem goods_all : ∀ {l : List Tr}, Tr.goods l ↔ ∀ t ∈ l, t.good
  | [] => by simp [Tr.goods]
  | t :: l => by rw [Tr.goods, goods_all]; simp
theorem depths_le : ∀ {l : List Tr} {t : Tr}, t ∈ l → t.depth ≤ Tr.depths l
  | u :: l, t, h => by
    rw [Tr.depths]
    rcases List.mem_cons.mp h with rfl | h
    · exact Nat.le_max_left _ _
    · exact Nat.le_trans (depths_le h) (Nat.le_max_right _ _)
theorem is_number_int (i : Int) (st : List Cell) : callF sm_is_number [.p (.int i)] st = .ok (.p (.bl true)) st := by
  refine Pu.call1 (Pu.of1 ?_) st
  simp [sm_is_number, runF_e]
theorem is_within_int (i a b : Int) (st : List Cell) : callF sm_is_within [.p (.int i), .p (.int a), .p (.int b)] st = .ok (.p (.bl (decide (a ≤ i ∧ i ≤ b)))) st := by
  refine Pu.call3 (Pu.of3 ?_) st
  by_cases h : a ≤ i <;> by_cases h2 : i ≤ b <;> simp [sm_is_within, runF_e, is_number_int, h, h2]
theorem Wd.lk (w : Wd) : (tab_SIGNS_OF.lookup w.s).isSome = true := by cases w <;> decide +kernel
theorem Wd.ne (w : Wd) : w.s ≠ Str.ofString "not" ∧ w.s ≠ Str.ofString "and" ∧ w.s ≠ Str.ofString "or" ∧ w.s ≠ Str.ofString "rest" ∧ Str.ofString "not" ≠ w.s ∧ Str.ofString "and" ≠ w.s ∧ Str.ofString "or" ≠ w.s ∧ Str.ofString "rest" ≠ w.s := by cases w <;> simp [Wd.s]
theorem okP_enc : ∀ (n : Nat) (t : Tr), t.depth ≤ n → okP (n + 1) t.enc = true := by
  intro n
  induction n with
  | zero => intro t h; cases t <;> rw [Tr.depth] at h <;> omega
  | succ n ih =>
    intro t h
    cases t with
    | «at» w a b c k => rw [Tr.enc]; cases w <;> simp [Wd.s]
    | rest a b c d k => rw [Tr.enc]; simp
    | no t =>
      rw [Tr.depth] at h
      rw [Tr.enc]; simp [ih t (by omega)]
    | op b l =>
      rw [Tr.depth] at h
      rw [Tr.enc, encs_map]
      have : ∀ t ∈ l, okP (n + 1) t.enc = true := fun t m => ih t (by have := depths_le m; omega)
      cases b <;> simp [opw] <;> exact this
def wt (a b c x y z : Int) : Int := a * x + (b * y + c * z)
def isAt : Tr → Prop
  | .at .. => True
  | .rest .. => True
  | _ => False
theorem F3.ok {a b c x y z : Int} (h : F3 a b c) (hx : Sm x) (hy : Sm y) (hz : Sm z) : mulOk a x = true ∧ mulOk b y = true ∧ mulOk c z = true := by
  obtain ⟨h1, h2, h3, _⟩ := h
  exact ⟨mulOk_of (Sm.small (by omega)) hx, mulOk_of (Sm.small (by omega)) hy, mulOk_of (Sm.small (by omega)) hz⟩
def Gt (n : Nat) (r : Res W) : Prop := match r with
  | .ok (.p (.str s)) _ => s.length ≤ n
  | _ => False
@[simp] theorem Gt_ok (n : Nat) (s : Str) (st : List Cell) : Gt n (.ok (.p (.str s)) st) = (s.length ≤ n) := rfl
@[simp] theorem Gt_no (n : Nat) : Gt n .no = False := rfl
@[simp] theorem Gt_ite (n : Nat) {c : Prop} [Decidable c] (a b : Res W) : Gt n (if c then a else b) = if c then Gt n a else Gt n b := by split <;> rfl
theorem Gt.call {F : FM} {xs : List P} {n : Nat} (h : Gt n (F (xs.map W.p) [])) : ∃ s, s.length ≤ n ∧ ∀ st, callF F (xs.map W.p) st = .ok (.p (.str s)) st := by
  unfold Gt at h
  split at h
  · rename_i s _ e
    exact ⟨s, h, fun st => Pu.call (show Gv (F (xs.map W.p) []) (.str s) by rw [e]; rfl) st⟩
  · exact h.elim
theorem Gt.call1 {F : FM} {x : P} {n : Nat} (h : Gt n (F [.p x] [])) : ∃ s, s.length ≤ n ∧ ∀ st, callF F [.p x] st = .ok (.p (.str s)) st := Gt.call (xs := [x]) h
def tb : Nat → Nat
  | 0 => 60
  | n + 1 => 4 * tb n + 40
end YS
namespace YS
open PySem PySem.Spec PyProof.Rows L2 Y YZ
def FM3 (m a b c : Int) : Prop := (-m ≤ a ∧ a ≤ m) ∧ (-m ≤ b ∧ b ≤ m) ∧ (-m ≤ c ∧ c ≤ m) ∧ ¬ (a = 0 ∧ b = 0 ∧ c = 0)
theorem FM3.f3 {m a b c : Int} (h : FM3 m a b c) (hm : m ≤ 3) : F3 a b c := by
  obtain ⟨h1, h2, h3, h4⟩ := h
  exact ⟨by omega, by omega, by omega, h4⟩
mutual
def Tr.ok (m b : Int) : Tr → Prop
  | .at _ x y z n => FM3 m x y z ∧ -b ≤ n ∧ n ≤ b
  | .rest x y z d n => FM3 m x y z ∧ 2 ≤ d ∧ d ≤ 5 ∧ 0 ≤ n ∧ n < d
  | .no t => t.ok m b
  | .op _ l => 2 ≤ l.length ∧ l.length ≤ 4 ∧ Tr.oks m b l
def Tr.oks (m b : Int) : List Tr → Prop
  | [] => True
  | t :: l => t.ok m b ∧ Tr.oks m b l
end
theorem isAt.one {t : Tr} (h : isAt t) : t.depth = 1 ∧ t.atoms.length = 1 := by
  cases t with
  | «at» w a b c n => simp [Tr.depth, Tr.atoms]
  | rest a b c d n => simp [Tr.depth, Tr.atoms]
  | no t => exact h.elim
  | op b l => exact h.elim
end YS
namespace YS
open PySem PySem.Spec PyProof.Rows L2 Y YZ
def fl (x : Int) : Int := if 0 < x then 1 else 0
end YS
namespace YS
open PySem PySem.Spec PyProof.Rows L2 Y YZ
inductive Wy where
  | heard | counted | two | marked
def Wy.s : Wy → Str
  | .heard => Str.ofString "heard"
  | .counted => Str.ofString "counted"
  | .two => Str.ofString "two-way"
  | .marked => Str.ofString "marked"
def Cts (x y z : Int) : Prop := 0 ≤ x ∧ 0 ≤ y ∧ 0 ≤ z ∧ ¬ (x = 0 ∧ y = 0 ∧ z = 0)
def BB : Int := 10000000000000000000000000000000000000000
def Lo (x : Int) : Prop := 0 ≤ x ∧ x ≤ 10000000000000000000000000000000000000000
theorem Lo.sm {x : Int} (h : Lo x) : Sm x := Sm.lt 200 (by have : (2:Nat)^200 = 1606938044258990275541962092341162602522202993782792835301376 := rfl; have := h.1; have := h.2; omega) (by decide)
end YS
namespace YS
open PySem PySem.Spec PyProof.Rows L2 Y YZ
def sm_law_same : Nat → FM
  | 0 => fun _ _ => .no
  | n + 1 => runF 2 4 (sSeq (sIf (mOrT (mTru (mIsi "list" (mVar 1))) (mTru (mIsi "tuple" (mVar 1)))) (sSeq (sIf (mOrT (mTst (mBin (vEqB true) (mIsi "list" (mVar 0)) (mIsi "list" (mVar 1)))) (mTst (mBin (vEqB true) (mIsi "tuple" (mVar 0)) (mIsi "tuple" (mVar 1))))) (sRet (mC (.bl false))) sNx)
    (sRet (mAndV (mBin (vEqB false) (mCallV vLen (mCons (mVar 0) mNil)) (mCallV vLen (mCons (mVar 1) mNil))) (mCallV (vAnyG fun bs => bs.all id) (mCons (mLc (mZipA (mVar 0) (mVar 1)) (.tp [(.nm 2), (.nm 3)]) [2, 3] mYes (mCallF (sm_law_same n) (mCons (mVar 2) (mCons (mVar 3) mNil))) finP) mNil))))) sNx)
    (sSeq (sIf (mOrT (mTst (mBin (vIsN false) (mVar 1) (mC .non))) (mTst (mBin (vIsN false) (mVar 0) (mC .non)))) (sRet (mAndV (mBin (vIsN false) (mVar 1) (mC .non)) (mBin (vIsN false) (mVar 0) (mC .non)))) sNx)
    (sSeq (sIf (mOrT (mTst (mBin (vEqB true) (mIsi "bool" (mVar 0)) (mIsi "bool" (mVar 1)))) (mTst (mBin (vEqB true) (mIsi "int" (mVar 0)) (mIsi "int" (mVar 1))))) (sRet (mC (.bl false))) sNx)
    (sRet (mAndV (mBin (vEqB false) (mIsi "str" (mVar 0)) (mIsi "str" (mVar 1))) (mBin (vEqB false) (mVar 0) (mVar 1)))))))
def datP : Nat → P → Bool
  | _, .non => true
  | _, .bl _ => true
  | _, .int _ => true
  | _, .str _ => true
  | n + 1, .tup l => decide (l.length ≤ 100000) && l.all (datP n)
  | n + 1, .lst l => decide (l.length ≤ 100000) && l.all (datP n)
  | _, _ => false
theorem zipL_self : ∀ l : List P, zipL l l = l.map fun x => .p (.tup [x, x])
  | [] => rfl
  | x :: l => by rw [zipL_cons, zipL_self l]; rfl
theorem same_refl : ∀ (n : Nat) (x : P), datP n x = true → ∀ st, callF (sm_law_same (n + 1)) [.p x, .p x] st = .ok (.p (.bl true)) st := by
  intro n
  induction n with
  | zero =>
    intro x h st
    refine Pu.call2 (Pu.of2 ?_) st
    cases x with
    | non => simp [sm_law_same, runF_e]
    | bl b => simp [sm_law_same, runF_e]
    | int b => simp [sm_law_same, runF_e]
    | str b => simp [sm_law_same, runF_e]
    | tup l => rw [datP] at h <;> first | cases h | (intros; contradiction)
    | lst l => rw [datP] at h <;> first | cases h | (intros; contradiction)
    | scr l => rw [datP] at h <;> first | cases h | (intros; contradiction)
    | dk _ _ => rw [datP] at h <;> first | cases h | (intros; contradiction)
    | obj _ _ => rw [datP] at h <;> first | cases h | (intros; contradiction)
    | exn _ _ => rw [datP] at h <;> first | cases h | (intros; contradiction)
    | lam _ _ => rw [datP] at h <;> first | cases h | (intros; contradiction)
    | cls _ => rw [datP] at h <;> first | cases h | (intros; contradiction)
    | fd _ _ => rw [datP] at h <;> first | cases h | (intros; contradiction)
    | fn _ _ => rw [datP] at h <;> first | cases h | (intros; contradiction)
  | succ n ih =>
    intro x h st
    refine Pu.call2 (Pu.of2 ?_) st
    cases x with
    | non => simp [sm_law_same, runF_e]
    | bl b => simp [sm_law_same, runF_e]
    | int b => simp [sm_law_same, runF_e]
    | str b => simp [sm_law_same, runF_e]
    | tup l =>
      rw [datP, Bool.and_eq_true] at h
      have hl := of_decide_eq_true h.1
      rw [sm_law_same, runF_e]
      simp [zipL_self, show l.length ≤ 1000000 by omega]
      rw [lcL_mapF (fun _ => .bl true) (fun x mx => ⟨_, by simp; rfl, by simp [ih x (List.all_eq_true.mp h.2 x mx)]⟩)]
      simp
    | lst l =>
      rw [datP, Bool.and_eq_true] at h
      have hl := of_decide_eq_true h.1
      rw [sm_law_same, runF_e]
      simp [zipL_self, show l.length ≤ 1000000 by omega]
      rw [lcL_mapF (fun _ => .bl true) (fun x mx => ⟨_, by simp; rfl, by simp [ih x (List.all_eq_true.mp h.2 x mx)]⟩)]
      simp
    | scr l => rw [datP] at h <;> first | cases h | (intros; contradiction)
    | dk _ _ => rw [datP] at h <;> first | cases h | (intros; contradiction)
    | obj _ _ => rw [datP] at h <;> first | cases h | (intros; contradiction)
    | exn _ _ => rw [datP] at h <;> first | cases h | (intros; contradiction)
    | lam _ _ => rw [datP] at h <;> first | cases h | (intros; contradiction)
    | cls _ => rw [datP] at h <;> first | cases h | (intros; contradiction)
    | fd _ _ => rw [datP] at h <;> first | cases h | (intros; contradiction)
    | fn _ _ => rw [datP] at h <;> first | cases h | (intros; contradiction)
end YS
namespace YS
open PySem PySem.Spec PyProof.Rows L2 Y YZ
def badC : List P := [.non, .tup [.int 1, .int 0], .lst [.int 1, .int 0, .int 0], .tup [.int 1, .int 0, .bl true], .tup [.int 1, .int (-1), .int 0], .int 3, .tup [.str (Str.ofString "1"), .int 0, .int 0]]
inductive CV : P → Bool → Prop
  | good {x y z : Int} (h : Cts x y z) (hx : Lo x) (hy : Lo y) (hz : Lo z) : CV (T3 x y z) true
  | zero : CV (T3 0 0 0) false
  | bad {v : P} (h : v ∈ badC) : CV v false
theorem CV.okP {a : P} {k : Bool} (h : CV a k) : okP 63 a = true := by
  cases h with
  | good => simp
  | zero => simp
  | bad h =>
    simp only [badC, List.mem_cons, List.not_mem_nil, or_false] at h
    rcases h with rfl | rfl | rfl | rfl | rfl | rfl | rfl <;> simp
end YS
namespace YS
open PySem PySem.Spec PyProof.Rows L2 Y YZ
def Gc (v : P) (c : Cell) (r : Res W) : Prop := match r with
  | .ok (.p x) (d :: _) => x = v ∧ d = c
  | _ => False
@[simp] theorem Gc_ok (v x : P) (c d : Cell) (l : List Cell) : Gc v c (.ok (.p x) (d :: l)) = (x = v ∧ d = c) := rfl
theorem Gc.ex {v : P} {c : Cell} {r : Res W} (h : Gc v c r) : ∃ l, r = .ok (.p v) (c :: l) := by
  unfold Gc at h
  split at h
  · obtain ⟨rfl, rfl⟩ := h
    exact ⟨_, rfl⟩
  · exact h.elim
theorem set_self {α : Type} {l : List α} {i : Nat} {c : α} (h : l[i]? = some c) : l.set i c = l := by
  obtain ⟨hi, e⟩ := List.getElem?_eq_some_iff.mp h
  rw [← e]; exact List.set_getElem_self hi
theorem Gc.call {F : FM} {ws ws' : List W} {v : P} {c : Cell} {st : List Cell} {i : Nat} (e1 : argRefs ws = [i]) (e2 : argIn 0 ws = ws') (h : Gc v c (F ws' [c])) (hp : plainC c = true) (hi : st[i]? = some c) : callF F ws st = .ok (.p v) st := by
  obtain ⟨l, e⟩ := h.ex
  unfold callF
  rw [e1, if_pos (by simp), e2]
  simp [Y.getCells, hi, hp, e, Y.callEnd, Y.putCells, set_self hi]
theorem Gc.call3 {F : FM} {x y v : P} {c : Cell} {st : List Cell} {i : Nat} (h : Gc v c (F [.p x, .r 0, .p y] [c])) (hp : plainC c = true) (hi : st[i]? = some c) : callF F [.p x, .r i, .p y] st = .ok (.p v) st := Gc.call rfl rfl h hp hi
theorem Gc.call2 {F : FM} {x v : P} {c : Cell} {st : List Cell} {i : Nat} (h : Gc v c (F [.p x, .r 0] [c])) (hp : plainC c = true) (hi : st[i]? = some c) : callF F [.p x, .r i] st = .ok (.p v) st := Gc.call rfl rfl h hp hi
end YS
namespace YS
open PySem PySem.Spec PyProof.Rows L2 Y YZ
def sOf (l : List Nat) : Str := ⟨l.toArray⟩
structure Wb (s : Str) (A : Arcs) : Prop where
  n0 : 0 < s.length
  ch : ∀ c ∈ s.cps.toList, c = 97 ∨ c = 98 ∨ c = 99 ∨ c = 109
  inn : InN s.length A
  cn : Conn s.length A
def wP (s : Str) (A : Arcs) : P := .tup [.str s, .lst (A.map tupP)]
def okC (c : Nat) : Prop := c = 97 ∨ c = 98 ∨ c = 99 ∨ c = 109
end YS
namespace YS
open PySem PySem.Spec PyProof.Rows L2 Y YZ
def nxt (n i : Nat) : Int := Int.ofNat ((i + 1) % n)
@[simp] theorem vMulS_e (a : Str) (k : Int) (st : List Cell) : vMulS (.p (.str a)) (.p (.int k)) st = if 0 ≤ k ∧ k ≤ 1000 ∧ a.length ≤ 1000 then .ok (.p (.str (strRep a k.toNat))) st else .no := rfl
theorem lcL_bg {e : EM} {R : P → Prop} {σ : Sg} {t : Tg} {rest : List Cell} : ∀ {l : List W} {c : Cell}, GB c → (∀ w ∈ l, ∃ σ1, t.put w σ = some σ1 ∧ ∀ c, GB c → ∃ x c', e σ1 (c :: rest) = .ok (.p x) (c' :: rest) ∧ GB c' ∧ R x) →
    ∃ (c' : Cell) (xs : List P), GB c' ∧ xs.length = l.length ∧ (∀ x ∈ xs, R x) ∧ lcL t mYes e σ l (c :: rest) = .ok (xs.map W.p) (c' :: rest)
  | [], c, hc, _ => ⟨c, [], hc, rfl, by simp, rfl⟩
  | w :: l, c, hc, he => by
    obtain ⟨σ1, e1, h1⟩ := he w List.mem_cons_self
    obtain ⟨x, c1, e2, hc1, hx⟩ := h1 c hc
    obtain ⟨c2, xs, hc2, hl, hxs, e3⟩ := lcL_bg (l := l) hc1 fun w hw => he w (List.mem_cons_of_mem _ hw)
    refine ⟨c2, x :: xs, hc2, by simp [hl], fun y hy => ?_, ?_⟩
    · rcases List.mem_cons.mp hy with rfl | hy
      · exact hx
      · exact hxs y hy
    · rw [lcL_cons, e1, lcP_e, mYes_e]
      simp [e2, e3]
theorem ints_of {xs : List P} {p : Int → Prop} (h : ∀ x ∈ xs, ∃ k, x = .int k ∧ p k) : ∃ Z : List Int, xs = Z.map P.int ∧ ∀ z ∈ Z, p z := by
  induction xs with
  | nil => exact ⟨[], rfl, by simp⟩
  | cons x xs ih =>
    obtain ⟨ls, rfl, h2⟩ := ih fun y hy => h y (List.mem_cons_of_mem _ hy)
    obtain ⟨c, rfl, hc⟩ := h x List.mem_cons_self
    exact ⟨c :: ls, rfl, fun d hd => by
      rcases List.mem_cons.mp hd with rfl | hd
      · exact hc
      · exact h2 d hd⟩
end YS
namespace YS
open PySem PySem.Spec PyProof.Rows L2 Y YZ
def LtS (s : Str) : Prop := 0 < s.length ∧ s.length ≤ 30 ∧ ∀ c ∈ s.cps.toList, okC c
theorem Wb.lt {s : Str} {A : Arcs} (h : Wb s A) (hs : s.length ≤ 30) : LtS s := ⟨h.n0, hs, h.ch⟩
theorem InN.small {n : Nat} {A : Arcs} (h : InN n A) (hn : n ≤ 900) : ∀ q ∈ A, smallQ q := fun q hq => by
  obtain ⟨a, b, c, d⟩ := h q hq
  exact ⟨a, by omega, c, by omega⟩
end YS
namespace YS
open PySem PySem.Spec PyProof.Rows L2 Y YZ
def tw (n : Nat) : Int := (2 : Int) ^ n
def ex (S : Int) (n : Nat) : Int := if S % tw n = 0 then 1 else 0
def row (x y z : Int) (n : Nat) : Tr → P
  | .at _ a b c k => .tup [.int ((wt a b c x y z - k) / tw n), .int (ex (wt a b c x y z - k) n), .int (wt a b c x y z / tw n), .int (ex (wt a b c x y z) n)]
  | .rest a b c d _ => .tup [.int (wt a b c x y z % d), .int (tw n % d)]
  | _ => .non
theorem l2 : Nat.log2 2 < 9000 := by decide +kernel
end YS
namespace YS
open PySem PySem.Spec PyProof.Rows L2 Y YZ
def bl (m : Int) : Nat := if m = 0 then 0 else m.natAbs.log2 + 1
end YS
namespace YS
open PySem PySem.Spec PyProof.Rows L2 Y YZ
def Sz (k : Nat) (x : P) : Prop := ∀ m, k ≤ m → okP m x = true ∧ datP m x = true
theorem Sz.mono {k j : Nat} {x : P} (h : Sz k x) (l : k ≤ j) : Sz j x := fun m hm => h m (by omega)
theorem Sz.tup {k : Nat} {l : List P} (hl : l.length ≤ 100000) (h : ∀ y ∈ l, Sz k y) : Sz (k + 1) (.tup l) := by
  intro m hm
  obtain ⟨m, rfl⟩ : ∃ j, m = j + 1 := ⟨m - 1, by omega⟩
  refine ⟨?_, ?_⟩
  · rw [okP, List.all_eq_true]; exact fun y my => (h y my m (by omega)).1
  · rw [datP, Bool.and_eq_true, List.all_eq_true]; exact ⟨decide_eq_true hl, fun y my => (h y my m (by omega)).2⟩
theorem Sz.lst {k : Nat} {l : List P} (hl : l.length ≤ 100000) (h : ∀ y ∈ l, Sz k y) : Sz (k + 1) (.lst l) := by
  intro m hm
  obtain ⟨m, rfl⟩ : ∃ j, m = j + 1 := ⟨m - 1, by omega⟩
  refine ⟨?_, ?_⟩
  · rw [okP, List.all_eq_true]; exact fun y my => (h y my m (by omega)).1
  · rw [datP, Bool.and_eq_true, List.all_eq_true]; exact ⟨decide_eq_true hl, fun y my => (h y my m (by omega)).2⟩
theorem Sz.mem {k : Nat} {l : List P} (h : Sz k (.tup l)) {y : P} (my : y ∈ l) : Sz k y := by
  intro m hm
  have := h (m + 1) (by omega)
  rw [okP, datP, Bool.and_eq_true, List.all_eq_true, List.all_eq_true] at this
  exact ⟨this.1 y my, this.2.2 y my⟩
theorem Sz.len {k : Nat} {l : List P} (h : Sz k (.tup l)) : l.length ≤ 100000 := by
  have := (h (k + 1) (by omega)).2
  rw [datP, Bool.and_eq_true] at this
  exact of_decide_eq_true this.1
theorem Sz.int (i : Int) : Sz 0 (.int i) := fun m _ => ⟨by cases m <;> rfl, by cases m <;> rfl⟩
theorem Sz.bl (i : Bool) : Sz 0 (.bl i) := fun m _ => ⟨by cases m <;> rfl, by cases m <;> rfl⟩
theorem Sz.non : Sz 0 .non := fun m _ => ⟨by cases m <;> rfl, by cases m <;> rfl⟩
theorem Sz.str {s : Str} (h : PyData.strOk s = true) : Sz 0 (.str s) := fun m _ => ⟨by cases m <;> exact h, by cases m <;> rfl⟩
theorem datP_enc : ∀ (n : Nat) (t : Tr), t.good → t.depth ≤ n → datP (n + 1) t.enc = true := by
  intro n
  induction n with
  | zero => intro t _ h; cases t <;> rw [Tr.depth] at h <;> omega
  | succ n ih =>
    intro t hg h
    cases t with
    | «at» w a b c k => rw [Tr.enc]; simp [datP]
    | rest a b c d k => rw [Tr.enc]; simp [datP]
    | no t =>
      rw [Tr.depth] at h
      rw [Tr.good] at hg
      rw [Tr.enc]; simp [datP, ih t hg (by omega)]
    | op b l =>
      rw [Tr.depth] at h
      rw [Tr.good, goods_all] at hg
      rw [Tr.enc, encs_map]
      have : ∀ t ∈ l, datP (n + 1) t.enc = true := fun t m => ih t (hg.2.2 t m) (by have := depths_le m; omega)
      simp [datP, show l.length + 1 ≤ 100000 by omega]
      exact this
theorem Sz.enc {t : Tr} (hg : t.good) : Sz (t.depth + 1) t.enc := by
  intro m hm
  obtain ⟨m, rfl⟩ : ∃ j, m = j + 1 := ⟨m - 1, by omega⟩
  exact ⟨okP_enc m t (by omega), datP_enc m t hg (by omega)⟩
def IB (z : P) : Prop := (∃ i, z = .int i) ∨ (∃ b, z = .bl b)
def Fq (f : P) : Prop := Sz 30 f ∧ ∀ l, f = .tup l → ∀ z ∈ l, IB z
theorem IB.tr {z : P} (h : IB z) : ∃ b, truF z = some b ∧ (∀ i, z = .int i → b = decide (i ≠ 0)) := by
  rcases h with ⟨i, rfl⟩ | ⟨b, rfl⟩
  · exact ⟨_, rfl, fun j e => by cases e; by_cases h : i = 0 <;> simp [h]⟩
  · exact ⟨b, rfl, fun j e => by cases e⟩
abbrev wNot : Str := Str.ofString "not"
abbrev wAnd : Str := Str.ofString "and"
abbrev wOr : Str := Str.ofString "or"
abbrev wRest : Str := Str.ofString "rest"
abbrev wGe : Str := Str.ofString "at least"
abbrev wLe : Str := Str.ofString "at most"
abbrev wEq : Str := Str.ofString "equal"
inductive Od : Nat → P → Prop
  | flat {n : Nat} {x : P} (h : ∀ l, x ≠ .tup l) : Od n x
  | nil {n : Nat} : Od n (.tup [])
  | nos {n : Nat} {y : P} {ys : List P} (h : ∀ s, y ≠ .str s) : Od n (.tup (y :: ys))
  | oth {n : Nat} {s : Str} {ys : List P} (h : s ≠ wNot ∧ s ≠ wAnd ∧ s ≠ wOr ∧ s ≠ wRest ∧ s ≠ wGe ∧ s ≠ wLe ∧ s ≠ wEq) (hl : ys.length < 9000) : Od n (.tup (.str s :: ys))
  | con {n : Nat} {s : Str} {ys : List P} (h : s = wNot ∨ s = wAnd ∨ s = wOr) (hl : ys.length < 9000) (hy : ∀ y ∈ ys, Od n y) : Od (n + 1) (.tup (.str s :: ys))
  | rst {n : Nat} {f : P} {ys : List P} (hf : Fq f) (hl : ys.length < 9000) : Od n (.tup (.str wRest :: f :: ys))
  | atm {n : Nat} {s : Str} {f : P} {ys : List P} (h : s = wGe ∨ s = wLe ∨ s = wEq) (hf : Fq f) (hl : ys.length < 9000) : Od n (.tup (.str s :: f :: ys))
end YS
namespace YS
open PySem PySem.Spec PyProof.Rows L2 Y YZ
def okb (c : Nat) : Bool := c == 97 || c == 98 || c == 99 || c == 109
def letB (s : Str) : Bool := decide (1 ≤ s.length) && decide (s.length ≤ 30) && s.cps.all okb
theorem LtS.of {s : Str} (h : letB s = true) : LtS s := by
  unfold letB at h
  rw [Bool.and_eq_true, Bool.and_eq_true, decide_eq_true_eq, decide_eq_true_eq] at h
  obtain ⟨⟨h1, h2⟩, h3⟩ := h
  refine ⟨h1, h2, fun c hc => ?_⟩
  rw [Array.all_eq_true'] at h3
  have h4 := h3 c (by simpa using hc)
  unfold okb at h4
  unfold okC
  simp at h4
  omega
end YS
namespace YS
open PySem PySem.Spec PyProof.Rows L2 Y YZ
abbrev AZ := List ((Int × Int) × Int)
inductive Pth (Z : AZ) : Int → Int → Prop
  | base : Pth Z 0 0
  | step {u v h z : Int} : Pth Z u h → ((u, v), z) ∈ Z → Pth Z v (h + z)
structure HtI (Z : AZ) (n B : Nat) (L : Arcs) : Prop where
  nd : (L.map Prod.fst).Nodup
  inn : ∀ q ∈ L, 0 ≤ q.1 ∧ q.1 < n
  p : ∀ q ∈ L, Pth Z q.1 q.2
  bd : ∀ q ∈ L, q.2.natAbs ≤ L.length * B
  z : (0, 0) ∈ L
theorem HtI.start {Z : AZ} {n B : Nat} (h : 0 < n) : HtI Z n B [(0, 0)] :=
  ⟨by simp, fun q hq => by simp at hq; subst hq; exact ⟨by decide, by simpa using h⟩, fun q hq => by simp at hq; subst hq; exact .base, fun q hq => by simp at hq; subst hq; simp, by simp⟩
theorem HtI.le {Z : AZ} {n B : Nat} {L : Arcs} (h : HtI Z n B L) : L.length ≤ n := by
  have := nodup_len (L.map Prod.fst) (nodes n) h.nd fun x hx => by
    obtain ⟨q, hq, rfl⟩ := List.mem_map.mp hx
    exact mem_nodes.mpr (h.inn q hq)
  rwa [nodes_len, List.length_map] at this
theorem HtI.more {Z : AZ} {n B : Nat} {L : Arcs} (h : HtI Z n B L) {u v x z : Int} (hu : (u, x) ∈ L) (ha : ((u, v), z) ∈ Z) (hv : v ∉ L.map Prod.fst) (v0 : 0 ≤ v) (v1 : v < n) (hz : z.natAbs ≤ B) : HtI Z n B (L ++ [(v, x + z)]) := by
  refine ⟨?_, fun q hq => ?_, fun q hq => ?_, fun q hq => ?_, List.mem_append_left _ h.z⟩
  · rw [List.map_append, List.nodup_append]
    refine ⟨h.nd, by simp, fun a hm1 b hb => ?_⟩
    simp at hb
    subst hb
    exact fun e => hv (e ▸ hm1)
  · rcases List.mem_append.mp hq with hq | hq
    · exact h.inn q hq
    · simp at hq; subst hq; exact ⟨v0, v1⟩
  · rcases List.mem_append.mp hq with hq | hq
    · exact h.p q hq
    · simp at hq; subst hq; exact .step (h.p _ hu) ha
  · rw [List.length_append, Nat.add_mul]
    rcases List.mem_append.mp hq with hq | hq
    · have := h.bd q hq; omega
    · simp at hq; subst hq
      have := h.bd _ hu
      show (x + z).natAbs ≤ _
      simp only [List.length_cons, List.length_nil, Nat.zero_add, Nat.one_mul]
      have h2 := Int.natAbs_add_le x z
      show (x + z).natAbs ≤ L.length * B + B
      have h3 : x.natAbs ≤ L.length * B := this
      omega
theorem HtI.fn {Z : AZ} {n B : Nat} {L : Arcs} (h : HtI Z n B L) {u x y : Int} (h1 : (u, x) ∈ L) (h2 : (u, y) ∈ L) : x = y := by
  have key : ∀ {L : Arcs}, (L.map Prod.fst).Nodup → (u, x) ∈ L → (u, y) ∈ L → x = y := by
    intro L
    induction L with
    | nil => intro _ h; cases h
    | cons q L ih =>
      intro nd h1 h2
      rw [List.map_cons, List.nodup_cons] at nd
      rcases List.mem_cons.mp h1 with e1 | h1
      · rcases List.mem_cons.mp h2 with e2 | h2
        · exact congrArg Prod.snd (e1.trans e2.symm)
        · exact absurd (List.mem_map.mpr ⟨_, h2, rfl⟩) (by rw [← e1] at nd; exact nd.1)
      · rcases List.mem_cons.mp h2 with e2 | h2
        · exact absurd (List.mem_map.mpr ⟨_, h1, rfl⟩) (by rw [← e2] at nd; exact nd.1)
        · exact ih nd.2 h1 h2
  exact key h.nd h1 h2
structure HtF (Z : AZ) (n B : Nat) (L : Arcs) : Prop extends HtI Z n B L where
  all : ∀ v : Int, 0 ≤ v → v < n → ∃ x, (v, x) ∈ L
theorem HtF.of {Z : AZ} {A : Arcs} {n B : Nat} {L : Arcs} (h : HtI Z n B L) (hA : A = Z.map Prod.fst) (c : Conn n A) (h0 : 0 < n) (hc : ∀ u v z, ((u, v), z) ∈ Z → u ∈ L.map Prod.fst → v ∈ L.map Prod.fst) : HtF Z n B L := by
  refine ⟨h, fun v v0 v1 => ?_⟩
  have key : ∀ v, Rch A 0 v → v ∈ L.map Prod.fst := fun v r => by
    induction r with
    | refl => exact List.mem_map.mpr ⟨_, h.z, rfl⟩
    | @step b c r m ih =>
      rw [hA] at m
      obtain ⟨⟨⟨u, w⟩, z⟩, hm, e⟩ := List.mem_map.mp m
      cases e
      exact hc _ _ _ hm ih
  obtain ⟨q, hq, e⟩ := List.mem_map.mp (key v (c 0 v (by omega) (by omega) v0 v1))
  exact ⟨q.2, by rw [← e]; exact hq⟩
end YS
namespace YS
open PySem PySem.Spec PyProof.Rows L2 Y YZ
theorem fi (v : Int) : ∀ {o : List Int}, v ∈ o → o.findIdx? (· == v) = some (o.idxOf v)
  | x :: l, h => by
    rw [List.findIdx?_cons, List.idxOf_cons]
    by_cases e : x = v
    · subst e; simp
    · have hv : v ∈ l := (List.mem_cons.mp h).resolve_left fun z => e z.symm
      have e2 : (x == v) = false := by simpa using e
      rw [e2, fi v hv]; simp
structure Ord (n : Nat) (o : List Int) : Prop where
  perm : o.Perm ((List.range n).map fun (i : Nat) => (i : Int))
theorem Ord.len {n : Nat} {o : List Int} (h : Ord n o) : o.length = n := by rw [h.perm.length_eq]; simp
theorem Ord.mem {n : Nat} {o : List Int} (h : Ord n o) {v : Int} : v ∈ o ↔ 0 ≤ v ∧ v < n := by
  rw [h.perm.mem_iff, List.mem_map]
  constructor
  · rintro ⟨i, hi, rfl⟩
    have := List.mem_range.mp hi
    omega
  · intro ⟨h0, h1⟩
    exact ⟨v.toNat, List.mem_range.mpr (by omega), by omega⟩
theorem Ord.nd {n : Nat} {o : List Int} (h : Ord n o) : o.Nodup := by
  refine h.perm.nodup_iff.mpr ?_
  rw [List.nodup_iff_pairwise_ne, List.pairwise_map]
  exact List.Pairwise.imp (fun {a b} (z : a < b) e => by omega) List.pairwise_lt_range
def ix (o : List Int) (v : Int) : Nat := o.idxOf v
theorem ix_at {o : List Int} (hn : o.Nodup) {i : Nat} {v : Int} (h : o[i]? = some v) : ix o v = i := by
  obtain ⟨hi, e⟩ := List.getElem?_eq_some_iff.mp h
  unfold ix
  rw [← e]
  exact hn.idxOf_getElem i hi
def gt (s : Str) (v : Int) : Nat := s.cps.toList.getD v.toNat 0
def mv (o : List Int) (s : Str) : Str := sOf (o.map (gt s))
def mQ (o : List Int) (q : Int × Int) : Int × Int := ((ix o q.1 : Nat), (ix o q.2 : Nat))
def mA (o : List Int) (A : Arcs) : Arcs := A.map (mQ o)
def bk (n : Nat) (o : List Int) : List Int := (List.range n).map fun (i : Nat) => ((ix o (i : Int) : Nat) : Int)
theorem Ord.back {n : Nat} {o : List Int} (h : Ord n o) : Ord n (bk n o) := by
  refine ⟨?_⟩
  have p := (h.perm.map fun v => ((ix o v : Nat) : Int)).symm
  rw [List.map_map] at p
  refine p.trans (.of_eq ?_)
  refine List.ext_getElem? fun i => ?_
  rw [List.getElem?_map, List.getElem?_map]
  by_cases hi : i < n
  · have hl : i < o.length := by rw [h.len]; exact hi
    rw [List.getElem?_range hi, List.getElem?_eq_getElem hl]
    simp only [Option.map_some]
    rw [ix_at h.nd (List.getElem?_eq_getElem hl)]
  · rw [List.getElem?_eq_none (by rw [h.len]; omega), List.getElem?_eq_none (by simp; omega)]
    rfl
end YS
namespace YS
open PySem PySem.Spec PyProof.Rows L2 Y YZ
def hOf (L : Arcs) (u : Int) : Int := ((L.find? fun q => decide (q.1 = u)).map Prod.snd).getD 0
theorem hOf_mem {L : Arcs} {u x : Int} (h : (u, x) ∈ L) : (u, hOf L u) ∈ L := by
  unfold hOf
  cases e : L.find? fun q => decide (q.1 = u) with
  | none => exact absurd (List.find?_eq_none.mp e _ h) (by simp)
  | some q =>
    have h1 := List.mem_of_find?_eq_some e
    have h2 : q.1 = u := by simpa using List.find?_some e
    show (u, q.2) ∈ L
    rw [← h2]; exact h1
theorem HtF.at {Z : AZ} {n B : Nat} {L : Arcs} (h : HtF Z n B L) {u : Int} (u0 : 0 ≤ u) (u1 : u < n) : (u, hOf L u) ∈ L := by
  obtain ⟨x, hx⟩ := h.all u u0 u1
  exact hOf_mem hx
def dif (L : Arcs) (q : (Int × Int) × Int) : Int := hOf L q.1.1 + q.2 - hOf L q.1.2
def difs (L : Arcs) (Z : AZ) : List Int := Z.map (dif L)
end YS
namespace YS
open PySem PySem.Spec PyProof.Rows L2 Y YZ
inductive Pw (Z : AZ) (u : Int) : Int → Int → Prop
  | nil : Pw Z u u 0
  | step {v w x z : Int} : Pw Z u v x → ((v, w), z) ∈ Z → Pw Z u w (x + z)
theorem Pth.pw {Z : AZ} {v x : Int} (h : Pth Z v x) : Pw Z 0 v x := by
  induction h with
  | base => exact .nil
  | step _ m ih => exact .step ih m
theorem Pw.trans {Z : AZ} {u v w x y : Int} (h : Pw Z u v x) (k : Pw Z v w y) : Pw Z u w (x + y) := by
  induction k with
  | nil => rw [Int.add_zero]; exact h
  | @step a b y z _ m ih =>
    rw [show x + (y + z) = (x + y) + z by omega]
    exact .step ih m
theorem Rch.pw {Z : AZ} {A : Arcs} (hA : A = Z.map Prod.fst) {u v : Int} (h : Rch A u v) : ∃ x, Pw Z u v x := by
  induction h with
  | refl => exact ⟨0, .nil⟩
  | step _ m ih =>
    obtain ⟨x, hx⟩ := ih
    rw [hA] at m
    obtain ⟨⟨⟨a, b⟩, z⟩, hm, e⟩ := List.mem_map.mp m
    cases e
    exact ⟨_, .step hx hm⟩
def nd (k : Nat) (v i : Int) : Int := v * k + i
def Lp (k : Nat) (Z : AZ) (x : Int) : Prop := ∃ y, Pw Z 0 0 y ∧ (k : Int) ∣ x - y
theorem Lp.add {k : Nat} {Z : AZ} {x y : Int} (h : Lp k Z x) (h2 : Lp k Z y) : Lp k Z (x + y) := by
  obtain ⟨a, ha, da⟩ := h
  obtain ⟨b, hb, db⟩ := h2
  refine ⟨a + b, ha.trans hb, ?_⟩
  rw [show x + y - (a + b) = (x - a) + (y - b) by omega]
  exact Int.dvd_add da db
theorem Lp.zero (k : Nat) (Z : AZ) : Lp k Z 0 := ⟨0, .nil, ⟨0, by simp⟩⟩
theorem Lp.mul {k : Nat} {Z : AZ} {x : Int} (h : Lp k Z x) : ∀ m : Nat, Lp k Z (m * x)
  | 0 => by rw [Int.natCast_zero, Int.zero_mul]; exact .zero k Z
  | m + 1 => by
    rw [show ((m + 1 : Nat) : Int) * x = m * x + x by rw [Int.natCast_add, Int.add_mul]; simp]
    exact (h.mul m).add h
theorem Lp.congr {k : Nat} {Z : AZ} {x y : Int} (h : Lp k Z x) (d : (k : Int) ∣ y - x) : Lp k Z y := by
  obtain ⟨a, ha, da⟩ := h
  refine ⟨a, ha, ?_⟩
  rw [show y - a = (y - x) + (x - a) by omega]
  exact Int.dvd_add d da
theorem Lp.neg {k : Nat} {Z : AZ} (hk : 0 < k) {x : Int} (h : Lp k Z x) : Lp k Z (-x) := by
  refine (h.mul (k - 1)).congr ⟨-x, ?_⟩
  rw [show ((k - 1 : Nat) : Int) = (k : Int) - 1 by omega, Int.sub_mul, Int.mul_neg]
  omega
theorem Lp.imul {k : Nat} {Z : AZ} (hk : 0 < k) {x : Int} (h : Lp k Z x) (m : Int) : Lp k Z (m * x) := by
  rcases Int.le_total 0 m with h0 | h0
  · obtain ⟨n, rfl⟩ := Int.eq_ofNat_of_zero_le h0
    exact h.mul n
  · obtain ⟨n, hn⟩ := Int.eq_ofNat_of_zero_le (show 0 ≤ -m by omega)
    have : m * x = -(n * x) := by rw [← Int.neg_mul]; congr 1; omega
    rw [this]
    exact (h.mul n).neg hk
theorem Lp.gcd {k : Nat} {Z : AZ} (hk : 0 < k) : ∀ (a b : Nat), Lp k Z a → Lp k Z b → Lp k Z (Nat.gcd a b : Nat) := by
  intro a b
  induction a, b using Nat.gcd.induction with
  | H0 n => intro _ h; rw [Nat.gcd_zero_left]; exact h
  | H1 m n hm ih =>
    intro h1 h2
    rw [Nat.gcd_rec]
    refine ih ?_ h1
    have e : ((n % m : Nat) : Int) = (n : Int) + -((n / m : Nat) * (m : Int)) := by
      have := Nat.div_add_mod n m
      have h3 : ((m * (n / m) + n % m : Nat) : Int) = n := by rw [this]
      rw [Int.natCast_add, Int.natCast_mul, Int.mul_comm] at h3
      omega
    rw [e]
    exact h2.add ((h1.imul hk _).neg hk)
theorem Lp.gcdL {k : Nat} {Z : AZ} (hk : 0 < k) : ∀ (D : List Int) (g : Nat), Lp k Z g → (∀ d ∈ D, Lp k Z d) → Lp k Z (gcdL g D : Nat)
  | [], g, h, _ => h
  | d :: D, g, h, hd => by
    have h1 := hd d List.mem_cons_self
    have h2 : Lp k Z (d.natAbs : Nat) := by
      rcases Int.natAbs_eq d with e | e
      · rw [← e]; exact h1
      · have : ((d.natAbs : Nat) : Int) = -d := by omega
        rw [this]; exact h1.neg hk
    exact Lp.gcdL hk D (Nat.gcd g d.natAbs) (Lp.gcd hk _ _ h h2) fun x hx => hd x (List.mem_cons_of_mem _ hx)
end YS
namespace YS
open PySem PySem.Spec PyProof.Rows L2 Y YZ
def LW : Wy → Str → Arcs → List Int → Nat → Prop
  | .marked, s, _, _, k => s.cps.toList.count 109 = 1 ∧ k = 1
  | .two, s, A, Z, _ => 109 ∉ s.cps.toList ∧ ∃ (A0 : Arcs) (Z0 : List Int), A = A0 ++ A0.map swp ∧ Z = Z0 ++ Z0.map (fun z => 0 - z) ∧ Z0.length = A0.length
  | _, s, _, _, _ => 109 ∉ s.cps.toList
structure LPt (w : Wy) (s : Str) (A : Arcs) (Z : List Int) (k : Nat) : Prop where
  W : Wb s A
  hs : s.length ≤ 4
  hA : A.length ≤ 16
  hl : Z.length = A.length
  hz : ∀ z ∈ Z, z.natAbs ≤ 3
  k1 : 1 ≤ k
  k2 : k ≤ 1000000000000000000000000000000
  k5 : k ≤ 5 ∨ 1000000000000 ≤ k
  g : ∃ (B : Nat) (L : Arcs), HtF (A.zip Z) s.length B L ∧ gcdL k (difs L (A.zip Z)) = 1
  lw : LW w s A Z k
end YS
namespace YS
open PySem PySem.Spec PyProof.Rows L2 Y YZ
abbrev Tri := Int × Int × Int
def hT (k : Nat) (q : Int × Int) : Tri := (q.1 / k, q.2 / k, q.2 % k)
end YS
namespace YS
open PySem PySem.Spec PyProof.Rows L2 Y YZ
def outs (A : Arcs) (v : Int) : Nat := (A.filter fun q => decide (q.1 = v)).length
def kn : Wy → Bool
  | .counted => true
  | .marked => true
  | _ => false
def mk (w : Wy) (s : Str) (A : Arcs) (v : Nat) : P := .tup [match s.cps.toList[v]? with | some c => .str ⟨#[c]⟩ | none => .non, .int (if kn w = true then outs A v else 0)]
end YS
namespace YS
open PySem PySem.Spec PyProof.Rows L2 Y YZ NS
structure Nums (n m : Nat) (N : List Int) : Prop where
  len : N.length = n
  bd : ∀ x ∈ N, 0 ≤ x ∧ x < m
  all : ∀ j : Nat, j < m → (j : Int) ∈ N
theorem Nums.pos {n m : Nat} {N : List Int} (h : Nums n m N) (hn : 0 < n) : 0 < m := by
  obtain ⟨x, hx⟩ : ∃ x, x ∈ N := by
    cases N with
    | nil => have := h.len; simp at this; omega
    | cons a N => exact ⟨a, List.mem_cons_self⟩
  have := h.bd x hx
  omega
theorem maxI_bd : ∀ {N : List Int} {m : Int}, (∀ x ∈ N, x ≤ m) → m ∈ N → maxI N = m
  | [], m, _, h => by cases h
  | [a], m, _, h => by rw [List.mem_singleton.mp h]; rfl
  | a :: b :: N, m, hb, h => by
    have ha := hb a List.mem_cons_self
    show max a (maxI (b :: N)) = m
    rcases List.mem_cons.mp h with e | h
    · have : ∀ {N : List Int}, N ≠ [] → (∀ x ∈ N, x ≤ m) → maxI N ≤ m := by
        intro N
        induction N with
        | nil => intro h; exact absurd rfl h
        | cons c N ih =>
          intro _ hN
          cases N with
          | nil => exact hN c List.mem_cons_self
          | cons d N =>
            show max c (maxI (d :: N)) ≤ m
            have := ih (by simp) fun x hx => hN x (List.mem_cons_of_mem _ hx)
            have := hN c List.mem_cons_self
            omega
      have := this (N := b :: N) (by simp) fun x hx => hb x (List.mem_cons_of_mem _ hx)
      omega
    · rw [maxI_bd (fun x hx => hb x (List.mem_cons_of_mem _ hx)) h]
      omega
theorem Nums.max {n m : Nat} {N : List Int} (h : Nums n m N) (hn : 0 < n) : maxI N = (m : Int) - 1 := by
  have hm := h.pos hn
  refine maxI_bd (fun x hx => by have := h.bd x hx; omega) ?_
  have := h.all (m - 1) (by omega)
  rwa [show ((m - 1 : Nat) : Int) = (m : Int) - 1 by omega] at this
end YS
namespace YS
open PySem PySem.Spec PyProof.Rows L2 Y YZ NS
structure BsD (m : Nat) (M : List (Nat × Int)) (R : List (List Int)) : Prop where
  p : 0 < m
  few : m < 64
  lm : M.length = m
  lr : R.length = m
  row : ∀ r ∈ R, r.length = m
  lets : ∀ q ∈ M, okC q.1
end YS
namespace YS
open PySem PySem.Spec PyProof.Rows L2 Y YZ
theorem Od.mono {n : Nat} {x : P} (h : Od n x) : ∀ {m : Nat}, n ≤ m → Od m x := by
  induction h with
  | flat h => exact fun _ => .flat h
  | nil => exact fun _ => .nil
  | nos h => exact fun _ => .nos h
  | oth h hl => exact fun _ => .oth h hl
  | con h hl hy ih =>
    intro m hm
    obtain ⟨m, rfl⟩ : ∃ j, m = j + 1 := ⟨m - 1, by omega⟩
    exact .con h hl fun y my => ih y my (by omega)
  | rst hf hl => exact fun _ => .rst hf hl
  | atm h hf hl => exact fun _ => .atm h hf hl
theorem Sz.T3 (a b c : Int) : Sz 1 (T3 a b c) := Sz.tup (by simp) (by simp [Sz.int])
theorem Fq.T3 (a b c : Int) : Fq (T3 a b c) := ⟨(Sz.T3 a b c).mono (by decide), by rintro l ⟨⟩; simp [IB]⟩
theorem Od.enc : ∀ (n : Nat) (t : Tr), t.good → t.depth ≤ n → Od n t.enc := by
  intro n
  induction n with
  | zero => intro t _ h; cases t <;> rw [Tr.depth] at h <;> omega
  | succ n ih =>
    intro t hg h
    cases t with
    | «at» w a b c k => rw [Tr.enc]; exact .atm (by cases w <;> simp [Wd.s]) (Fq.T3 _ _ _) (by simp)
    | rest a b c d k => rw [Tr.enc]; exact .rst (Fq.T3 _ _ _) (by simp)
    | no t =>
      rw [Tr.depth] at h
      rw [Tr.good] at hg
      rw [Tr.enc]; exact .con (.inl rfl) (by simp) (by simp; exact ih t hg (by omega))
    | op b l =>
      rw [Tr.depth] at h
      rw [Tr.good, goods_all] at hg
      rw [Tr.enc, encs_map]
      refine .con (by cases b <;> simp [opw]) (by rw [List.length_map]; omega) fun y my => ?_
      obtain ⟨u, mu, rfl⟩ := List.mem_map.mp my
      exact ih u (hg.2.2 u mu) (by have := depths_le mu; omega)
end YS
namespace YS
open PySem PySem.Spec PyProof.Rows L2 Y YZ NS
theorem mEnmA_tup (l : List P) (m : EM) (σ : Sg) (st st1 : List Cell) (h : m σ st = .ok (.p (.tup l)) st1) : mEnmA m σ st = .ok (srcL (enmL 0 l)) st1 := by
  unfold mEnmA
  rw [h]; rfl
end YS
namespace YS
open PySem PySem.Spec PyProof.Rows L2 Y YZ NS
def Kn (v : P) : Prop := ∃ s A, v = wP s A ∧ Wb s A ∧ s.length ≤ 12 ∧ A.length ≤ 84
theorem Wb.more {s : Str} {A : Arcs} (hW : Wb s A) {B : Arcs} (hB : InN s.length B) : Wb s (A ++ B) :=
  ⟨hW.n0, hW.ch, fun q hq => (List.mem_append.mp hq).elim (hW.inn q) (hB q), hW.cn.mono fun q hq => List.mem_append_left _ hq⟩
end YS
namespace YS
open PySem PySem.Spec PyProof.Rows L2 Y YZ NS
@[simp] theorem lzK_1 (f : Nat → P → P) (F : List P → LR) (x : P) (st : List Cell) : lzK f F [.p x] st = .ok (srcLz f (F [x])) st := rfl
@[simp] theorem lzK_2 (f : Nat → P → P) (F : List P → LR) (x y : P) (st : List Cell) : lzK f F [.p x, .p y] st = .ok (srcLz f (F [x, y])) st := rfl
section
variable {w : Wy} {s : Str} {A : Arcs}
@[simp] theorem nox_ok (f : Fl) (σ : Sg) (st : List Cell) : SR.nox (.ok f σ st) = .ok f σ st := rfl
theorem nox_ite {c : Prop} [Decidable c] (a b : SR) : SR.nox (if c then a else b) = if c then a.nox else b.nox := by split <;> rfl
end
end YS
namespace YS
open PySem PySem.Spec PyProof.Rows L2 Y YZ NS
def sm_law_rules : FM := runF 1 3 (sSeq (sSet 1 (mBin vAdd (mC (.int 2)) (mCallF sm_law_pull (mCons (mVar 0) (mCons (mC (.int 4)) mNil)))))
    (sRet (mLc (mRng1 (mCallF sm_law_pull (mCons (mVar 0) (mCons (mC (.int 9)) mNil)))) (.nm 2) [2] mYes (mTup (mCons (mCallF sm_law_pull (mCons (mVar 0) (mCons (mVar 1) mNil))) (mCons (mCallF sm_law_pull (mCons (mVar 0) (mCons (mVar 1) mNil))) (mCons (mBin vAdd (mC (.int 1)) (mCallF sm_law_pull (mCons (mVar 0) (mCons (mC (.int 3)) mNil)))) (mCons (mCallF sm_law_pull (mCons (mVar 0) (mCons (mVar 1) mNil))) mNil))))) finP)))
def sm_is_rule : FM := runF 1 6 (sSeq (sIf (mOrT (mNotT (mTru (mIsi "tuple" (mVar 0)))) (mTst (mBin (vEqB true) (mCallV vLen (mCons (mVar 0) mNil)) (mC (.int 4))))) (sRet (mC (.bl false))) sNx)
    (sSeq (sPut (.tp [(.nm 1), (.nm 2), (.nm 3), (.nm 4)]) (mVar 0))
    (sSeq (sIf (mNotT (mTru (mCallV (vAnyG fun bs => bs.all id) (mCons (mLc (mSrc (mTup (mCons (mVar 1) (mCons (mVar 2) (mCons (mVar 4) mNil))))) (.nm 5) [5] mYes (mCallF sm_is_within (mCons (mVar 5) (mCons (mC (.int 0)) (mCons (mBin vSub (mC (.int 8)) (mC (.int 1))) mNil)))) finP) mNil)))) (sRet (mC (.bl false))) sNx)
    (sRet (mCallF sm_is_within (mCons (mVar 3) (mCons (mC (.int 1)) (mCons (mC (.int 200)) mNil))))))))
def sm_Rules_init : FM := runX 3 6 (sSeq (sIf (mOrT (mNotT (mTru (mIsi "tuple" (mVar 1)))) (mTst (mBin (vEqB true) (mCallV vLen (mCons (mVar 1) mNil)) (mC (.int 4))))) (sRaise1 34 (mNeg (mC (.int 1))) "InvalidRules") sNx)
    (sSeq (sIf (mNotT (mTru (mCallV (vAnyG fun bs => bs.all id) (mCons (mLc (mSrc (mVar 1)) (.nm 5) [5] mYes (mCallF sm_is_within (mCons (mVar 5) (mCons (mC (.int 0)) (mCons (mBin vSub (mC (.int 8)) (mC (.int 1))) mNil)))) finP) mNil)))) (sRaise1 34 (mNeg (mC (.int 1))) "InvalidRules") sNx)
    (sSeq (sFor (mEnmA (mVar 2)) (.tp [(.nm 3), (.nm 4)]) (sIf (mOrT (mTst (mBin vGe (mVar 3) (mC (.int 60)))) (mNotT (mTru (mCallF sm_is_rule (mCons (mVar 4) mNil))))) (sRaise1 34 (mVar 3) "InvalidRules") sNx))
    (sSeq (sSetF [(13, 0)] (mVar 0) (mVar 1))
    (sSeq (sSetF [(13, 1)] (mVar 0) (mVar 2))
    (sSetF [(13, 2)] (mVar 0) (mTup (mCons (mVar 1) (mCons (mVar 2) mNil)))))))))
def sm_law_program : FM := runX 2 7 (sSeq (sSet 2 (mCallV vLen (mCons (mVar 1) mNil)))
    (sSeq (sIf (mTst (mBin (vEqB false) (mVar 2) (mC (.int 0)))) (sRet (mMakeS 13 3 1 sm_Rules_init (mCons (mVar 0) mNil))) sNx)
    (sSeq (sIf (mTst (mBin (vEqB false) (mVar 2) (mC (.int 1)))) (sRet (mMakeS 13 3 1 sm_Rules_init (mCons (mVar 0) (mCons (mBin vIx (mVar 1) (mC (.int 0))) mNil)))) sNx)
    (sSeq (sIf (mTst (mBin (vEqB false) (mVar 2) (mC (.int 2)))) (sRet (mMakeS 13 3 1 sm_Rules_init (mCons (mVar 0) (mCons (mBin vIx (mVar 1) (mC (.int 0))) (mCons (mBin vIx (mVar 1) (mC (.int 1))) mNil))))) sNx)
    (sSeq (sIf (mTst (mBin (vEqB false) (mVar 2) (mC (.int 3)))) (sRet (mMakeS 13 3 1 sm_Rules_init (mCons (mVar 0) (mCons (mBin vIx (mVar 1) (mC (.int 0))) (mCons (mBin vIx (mVar 1) (mC (.int 1))) (mCons (mBin vIx (mVar 1) (mC (.int 2))) mNil)))))) sNx)
    (sSeq (sPutL [(.nm 3), (.nm 4), (.nm 5), (.nm 6)] (mSl (mVar 1) oNone (oSome (mC (.int 4)))))
    (sSeq (sIf (mTst (mBin (vEqB false) (mVar 2) (mC (.int 4)))) (sRet (mMakeS 13 3 1 sm_Rules_init (mCons (mVar 0) (mCons (mVar 3) (mCons (mVar 4) (mCons (mVar 5) (mCons (mVar 6) mNil))))))) sNx)
    (sSeq (sIf (mTst (mBin (vEqB false) (mVar 2) (mC (.int 5)))) (sRet (mMakeS 13 3 1 sm_Rules_init (mCons (mVar 0) (mCons (mVar 3) (mCons (mVar 4) (mCons (mVar 5) (mCons (mVar 6) (mCons (mBin vIx (mVar 1) (mC (.int 4))) mNil)))))))) sNx)
    (sSeq (sIf (mTst (mBin (vEqB false) (mVar 2) (mC (.int 6)))) (sRet (mMakeS 13 3 1 sm_Rules_init (mCons (mVar 0) (mCons (mVar 3) (mCons (mVar 4) (mCons (mVar 5) (mCons (mVar 6) (mCons (mBin vIx (mVar 1) (mC (.int 4))) (mCons (mBin vIx (mVar 1) (mC (.int 5))) mNil))))))))) sNx)
    (sSeq (sIf (mTst (mBin (vEqB false) (mVar 2) (mC (.int 7)))) (sRet (mMakeS 13 3 1 sm_Rules_init (mCons (mVar 0) (mCons (mVar 3) (mCons (mVar 4) (mCons (mVar 5) (mCons (mVar 6) (mCons (mBin vIx (mVar 1) (mC (.int 4))) (mCons (mBin vIx (mVar 1) (mC (.int 5))) (mCons (mBin vIx (mVar 1) (mC (.int 6))) mNil)))))))))) sNx)
    (sRet (mMakeS 13 3 1 sm_Rules_init (mCons (mVar 0) (mCons (mVar 3) (mCons (mVar 4) (mCons (mVar 5) (mCons (mVar 6) (mCons (mBin vIx (mVar 1) (mC (.int 4))) (mCons (mBin vIx (mVar 1) (mC (.int 5))) (mCons (mBin vIx (mVar 1) (mC (.int 6))) (mCons (mBin vIx (mVar 1) (mC (.int 7))) mNil)))))))))))))))))))))
abbrev Ru := Int × Int × Int × Int
def ruP (q : Ru) : P := .tup [.int q.1, .int q.2.1, .int q.2.2.1, .int q.2.2.2]
def gS (q : Ru) : Prop := (0 ≤ q.1 ∧ q.1 ≤ 7) ∧ (0 ≤ q.2.1 ∧ q.2.1 ≤ 7) ∧ (0 ≤ q.2.2.1 ∧ q.2.2.1 ≤ 7) ∧ (0 ≤ q.2.2.2 ∧ q.2.2.2 ≤ 7)
def gR (q : Ru) : Prop := (0 ≤ q.1 ∧ q.1 ≤ 7) ∧ (0 ≤ q.2.1 ∧ q.2.1 ≤ 7) ∧ (1 ≤ q.2.2.1 ∧ q.2.2.1 ≤ 200) ∧ (0 ≤ q.2.2.2 ∧ q.2.2.2 ≤ 7)
def ruL (t : Ru) (R : List Ru) : List P := [ruP t, .tup (R.map ruP), .tup [ruP t, .tup (R.map ruP)]]
def ruO (t : Ru) (R : List Ru) : P := .obj 13 (ruL t R)
theorem is_rule_ok {q : Ru} (h : gR q) (st : List Cell) : callF sm_is_rule [.p (ruP q)] st = .ok (.p (.bl true)) st := by
  refine Pu.call1 (Pu.of1 ?_) st
  obtain ⟨⟨a0, a1⟩, ⟨b0, b1⟩, ⟨c0, c1⟩, ⟨d0, d1⟩⟩ := h
  simp [sm_is_rule, runF_e, ruP, is_within_int, lcL_cons, lcL_nil, a0, a1, b0, b1, c0, c1, d0, d1]
theorem rules_init_ok {t : Ru} {R : List Ru} (ht : gS t) (hR : ∀ q ∈ R, gR q) (hl : R.length ≤ 60) : Gm 13 (ruL t R) (sm_Rules_init [.r 0, .p (ruP t), .p (.tup (R.map ruP))] [.ins 13 []]) := by
  obtain ⟨⟨a0, a1⟩, ⟨b0, b1⟩, ⟨c0, c1⟩, ⟨d0, d1⟩⟩ := ht
  have e1 : ∀ (x : W) st, mEnmA (mVar 2) ([some (.r 0), some x, some (.p (.tup (R.map ruP))), none, none, none] : Sg) st = .ok (srcL (enmL 0 (R.map ruP))) st := fun x st => mEnmA_tup _ _ _ _ _ rfl
  conv => arg 3; simp [sm_Rules_init, runX_e, ruP, is_within_int, lcL_cons, lcL_nil, a0, a1, b0, b1, c0, c1, d0, d1, e1, -forL_cons]
  refine forL_rule (fun r => Gm _ _ (runRX (r.then _))) (fun i σ st => ∃ x3 x4, σ = [some (.r 0), some (.p (ruP t)), some (.p (.tup (R.map ruP))), x3, x4, none] ∧ st = [.ins 13 []]) ⟨none, none, rfl, rfl⟩ ?_ ?_
  · rintro i w σ st hw ⟨x3, x4, rfl, rfl⟩
    obtain ⟨x, hx, rfl⟩ := enm_get hw
    rw [List.getElem?_map] at hx
    obtain ⟨q, hq, rfl⟩ := Option.map_eq_some_iff.mp hx
    have hi : i < R.length := (List.getElem?_eq_some_iff.mp hq).1
    have hn : ¬ (60 : Int) ≤ i := by omega
    have ir := fun st => is_rule_ok (hR q (List.mem_of_getElem? hq)) st
    generalize ruP q = Q at *
    conv => arg 3; simp [hn, ir]
    exact ⟨_, _, rfl, rfl⟩
  · rintro σ st ⟨x3, x4, rfl, rfl⟩
    unfold ruL
    generalize ruP t = T
    generalize R.map ruP = RR
    simp
theorem rules_make {t : Ru} {R : List Ru} (ht : gS t) (hR : ∀ q ∈ R, gR q) (hl : R.length ≤ 60) (st : List Cell) : makeS 13 3 1 sm_Rules_init (.p (ruP t) :: (R.map ruP).map W.p) st = .ok (.p (ruO t R)) st := by
  have e : stArgs 1 (.p (ruP t) :: (R.map ruP).map W.p) = some [.p (ruP t), .p (.tup (R.map ruP))] := by
    unfold stArgs
    rw [if_pos (by simp)]
    show (match pures ((R.map ruP).map W.p) with | some l => if l.length ≤ LIM then some ([W.p (ruP t)] ++ [W.p (.tup l)]) else none | none => none) = _
    rw [pures_map]
    show (if (R.map ruP).length ≤ LIM then _ else none) = _
    rw [if_pos (by rw [List.length_map]; unfold LIM; omega)]
    rfl
  unfold makeS
  rw [e]
  exact makeX_pure (xs := [ruP t, .tup (R.map ruP)]) (rules_init_ok ht hR hl) rfl st
theorem cls13 (t : Ru) (R : List Ru) (st : List Cell) : clsOf st (.p (ruO t R)) = some 13 := rfl
end YS
namespace YS
open PySem PySem.Spec PyProof.Rows L2 Y YZ NS
section
variable {t : Ru} {R : List Ru} {s : Str} {A : Arcs}
def ruPt : SMm := (sPutN (mVar 3) (mVar 7) (mVar 5))
def ruAp : SMm := (sExpr (mBm "list" vAppend (mVar 4) (mCons (mVar 7) mNil)))
def ruB : SMm := (sSeq (sSet 7 (mCallV vTupOf (mCons (mVar 6) mNil)))
    (sSeq (sIf (mTst (mBin (vEqB false) (mVar 5) (mVar 2))) (sRet (mVar 6)) sNx)
    (sSeq (sIf (mTst (mBin (vInC false) (mVar 7) (mVar 3))) (sSeq (sSet 8 (mBin vIxC (mVar 3) (mVar 7)))
    (sRet (mCallV vLstOf (mCons (mBin vIx (mVar 4) (mBin vAdd (mVar 8) (mBin vMod (mBin vSub (mVar 2) (mVar 8)) (mBin vSub (mVar 5) (mVar 8))))) mNil)))) sNx)
    (sSeq (sIf (mTst (mBin vGe (mVar 5) (mC (.int 10000)))) (sRaise1 35 (mC (.int 10000)) "TooLong") sNx)
    (sSeq ruPt ruAp)))))
end
end YS
namespace YS
open PySem PySem.Spec PyProof.Rows L2 Y YZ NS
theorem ru_of : ∀ {xs : List P}, (∀ x ∈ xs, ∃ q, x = ruP q ∧ gR q) → ∃ R : List Ru, xs = R.map ruP ∧ ∀ q ∈ R, gR q
  | [], _ => ⟨[], rfl, fun q h => by cases h⟩
  | x :: xs, h => by
    obtain ⟨R, rfl, h2⟩ := ru_of fun y hy => h y (List.mem_cons_of_mem _ hy)
    obtain ⟨q, rfl, hq⟩ := h x List.mem_cons_self
    exact ⟨q :: R, rfl, fun p hp => by
      rcases List.mem_cons.mp hp with rfl | hp
      · exact hq
      · exact h2 p hp⟩
theorem law_rules_bg : Bg sm_law_rules [] fun v => ∃ R : List Ru, v = .lst (R.map ruP) ∧ R.length ≤ 8 ∧ ∀ q ∈ R, gR q := by
  intro c hc
  obtain ⟨_, c1, e1, hc1, k, rfl, k0, k1⟩ := (pull_bg (n := 4) (by omega) (small_log (by omega) (by omega))).call1 hc []
  obtain ⟨_, c2, e2, hc2, j, rfl, j0, j1⟩ := (pull_bg (n := 9) (by omega) (small_log (by omega) (by omega))).call1 hc1 []
  obtain ⟨m, hm⟩ : ∃ m : Nat, (m : Int) = j := ⟨j.toNat, by omega⟩
  subst hm
  obtain ⟨c3, xs, hc3, lx, hx, e3⟩ := lcL_bg (e := mTup (mCons (mCallF sm_law_pull (mCons (mVar 0) (mCons (mVar 1) mNil))) (mCons (mCallF sm_law_pull (mCons (mVar 0) (mCons (mVar 1) mNil))) (mCons (mBin vAdd (mC (.int 1)) (mCallF sm_law_pull (mCons (mVar 0) (mCons (mC (.int 3)) mNil)))) (mCons (mCallF sm_law_pull (mCons (mVar 0) (mCons (mVar 1) mNil))) mNil))))) (R := fun x => ∃ q, x = ruP q ∧ gR q) (t := .nm 2) (σ := [some (.r 0), some (.p (.int (2 + k))), none]) (rest := []) (l := rngL 0 m) hc2 (fun w hw => ⟨_, put_nm _ _, fun c hc => by
    obtain ⟨_, c1, e1, hc1, a, rfl, a0, a1⟩ := (pull_bg (n := 2 + k) (by omega) (small_log (by omega) (by omega))).call1 hc []
    obtain ⟨_, c2, e2, hc2, b, rfl, b0, b1⟩ := (pull_bg (n := 2 + k) (by omega) (small_log (by omega) (by omega))).call1 hc1 []
    obtain ⟨_, c3, e3, hc3, d, rfl, d0, d1⟩ := (pull_bg (n := 3) (by omega) (small_log (by omega) (by omega))).call1 hc2 []
    obtain ⟨_, c4, e4, hc4, g, rfl, g0, g1⟩ := (pull_bg (n := 2 + k) (by omega) (small_log (by omega) (by omega))).call1 hc3 []
    exact ⟨ruP (a, b, 1 + d, g), c4, by simp [e1, e2, e3, e4, ruP], hc4, (a, b, 1 + d, g), rfl, ⟨a0, by show a ≤ 7; omega⟩, ⟨b0, by show b ≤ 7; omega⟩, ⟨by show 1 ≤ 1 + d; omega, by show 1 + d ≤ 200; omega⟩, ⟨g0, by show g ≤ 7; omega⟩⟩⟩)
  obtain ⟨R, rfl, hR⟩ := ru_of hx
  have lR : R.length = m := by rw [List.length_map, rngL_len] at lx; exact lx
  simp [sm_law_rules, runF_e, e1, e2, e3, show (m : Int) ≤ 1000000 by omega, show (-1000000 : Int) ≤ m by omega, show m ≤ 1000000 by omega, lR, hc3]
  exact ⟨R, rfl, by omega, fun a b c d h => hR (a, b, c, d) h⟩
theorem mMakeS_e (c nf n : Nat) (F : FM) (a : AM) (σ : Sg) (st : List Cell) : mMakeS c nf n F a σ st = (a σ st).bind fun ws st1 => makeS c nf n F ws st1 := rfl
@[simp] theorem sPutL_e (ts : List Tg) (m : EM) (σ : Sg) (st : List Cell) : sPutL ts m σ st = (m σ st).to σ (putLK ts σ) := rfl
theorem putLK_e (ts : List Tg) (l : List P) (σ σ' : Sg) (st : List Cell) (h : Tg.puts ts l σ = some σ') : putLK ts σ (.p (.lst l)) st = .ok .nx σ' st := by
  unfold putLK
  simp only [h]
theorem put4 (A B C D : P) (a0 a1 a2 a3 a4 a5 a6 : Option W) (st : List Cell) : putLK [.nm 3, .nm 4, .nm 5, .nm 6] [a0, a1, a2, a3, a4, a5, a6] (.p (.lst [A, B, C, D])) st = .ok .nx [a0, a1, a2, some (.p A), some (.p B), some (.p C), some (.p D)] st := putLK_e _ _ _ _ _ (by simp)
theorem law_program_ok {t : Ru} {R : List Ru} (ht : gS t) (hR : ∀ q ∈ R, gR q) (hl : R.length ≤ 8) (st : List Cell) : callF sm_law_program [.p (ruP t), .p (.lst (R.map ruP))] st = .ok (.p (ruO t R)) st := by
  refine Pu.call2 (Pu.of2 ?_) st
  have rm := fun st => rules_make ht hR (by omega) st
  match R, hl with
  | [], _ =>
    generalize ruO t [] = O at *
    generalize ruP t = T at *
    simp at rm
    simp -implicitDefEqProofs [sm_law_program, runX_e, mMakeS_e, rm, put4]
  | [a], _ =>
    generalize ruO t _ = O at *
    simp only [List.map_cons, List.map_nil] at rm ⊢
    generalize ruP t = T at *
    generalize ruP a = A at *
    simp -implicitDefEqProofs [sm_law_program, runX_e, mMakeS_e, rm, put4]
  | [a, b], _ =>
    generalize ruO t _ = O at *
    simp only [List.map_cons, List.map_nil] at rm ⊢
    generalize ruP t = T at *
    generalize ruP a = A at *
    generalize ruP b = B at *
    simp -implicitDefEqProofs [sm_law_program, runX_e, mMakeS_e, rm, put4]
  | [a, b, c], _ =>
    generalize ruO t _ = O at *
    simp only [List.map_cons, List.map_nil] at rm ⊢
    generalize ruP t = T at *
    generalize ruP a = A at *
    generalize ruP b = B at *
    generalize ruP c = C at *
    simp -implicitDefEqProofs [sm_law_program, runX_e, mMakeS_e, rm, put4]
  | [a, b, c, d], _ =>
    generalize ruO t _ = O at *
    simp only [List.map_cons, List.map_nil] at rm ⊢
    generalize ruP t = T at *
    generalize ruP a = A at *
    generalize ruP b = B at *
    generalize ruP c = C at *
    generalize ruP d = D at *
    simp -implicitDefEqProofs [sm_law_program, runX_e, mMakeS_e, rm, put4]
  | [a, b, c, d, e], _ =>
    generalize ruO t _ = O at *
    simp only [List.map_cons, List.map_nil] at rm ⊢
    generalize ruP t = T at *
    generalize ruP a = A at *
    generalize ruP b = B at *
    generalize ruP c = C at *
    generalize ruP d = D at *
    generalize ruP e = E at *
    simp -implicitDefEqProofs [sm_law_program, runX_e, mMakeS_e, rm, put4]
  | [a, b, c, d, e, f], _ =>
    generalize ruO t _ = O at *
    simp only [List.map_cons, List.map_nil] at rm ⊢
    generalize ruP t = T at *
    generalize ruP a = A at *
    generalize ruP b = B at *
    generalize ruP c = C at *
    generalize ruP d = D at *
    generalize ruP e = E at *
    generalize ruP f = F at *
    simp -implicitDefEqProofs [sm_law_program, runX_e, mMakeS_e, rm, put4]
  | [a, b, c, d, e, f, g], _ =>
    generalize ruO t _ = O at *
    simp only [List.map_cons, List.map_nil] at rm ⊢
    generalize ruP t = T at *
    generalize ruP a = A at *
    generalize ruP b = B at *
    generalize ruP c = C at *
    generalize ruP d = D at *
    generalize ruP e = E at *
    generalize ruP f = F at *
    generalize ruP g = G at *
    simp -implicitDefEqProofs [sm_law_program, runX_e, mMakeS_e, rm, put4]
  | [a, b, c, d, e, f, g, h], _ =>
    generalize ruO t _ = O at *
    simp only [List.map_cons, List.map_nil] at rm ⊢
    generalize ruP t = T at *
    generalize ruP a = A at *
    generalize ruP b = B at *
    generalize ruP c = C at *
    generalize ruP d = D at *
    generalize ruP e = E at *
    generalize ruP f = F at *
    generalize ruP g = G at *
    generalize ruP h = H at *
    simp -implicitDefEqProofs [sm_law_program, runX_e, mMakeS_e, rm, put4]
  | _ :: _ :: _ :: _ :: _ :: _ :: _ :: _ :: _ :: _, hl => exact absurd hl (by simp only [List.length_cons]; omega)
end YS
namespace YS
open PySem PySem.Spec PyProof.Rows L2 Y YZ NS
def sm_law_starts : FM := runF 1 2 (sRet (mCallV vTupOf (mCons (mLc (mSrc (mC (.str "abcm"))) (.nm 1) [1] mYes (mCallF sm_law_pull (mCons (mVar 0) (mCons (mC (.int 8)) mNil))) finP) mNil)))
theorem starts_bg : Bg sm_law_starts [] fun v => ∃ t : Ru, v = ruP t ∧ gS t := by
  intro c hc
  obtain ⟨c1, xs, hc1, lx, hx, e1⟩ := lcL_bg (e := mCallF sm_law_pull (mCons (mVar 0) (mCons (mC (.int 8)) mNil))) (R := fun x => ∃ k, x = .int k ∧ (0 ≤ k ∧ k < 8)) (t := .nm 1) (σ := [some (.r 0), none]) (rest := []) (l := chars (Str.ofString "abcm")) hc (fun w hw => ⟨_, put_nm _ _, fun c hc => by
    obtain ⟨x, c', e, hc', hx⟩ := (pull_bg (n := 8) (by omega) (small_log (by omega) (by omega))).call1 hc []
    exact ⟨x, c', by simp [e], hc', hx⟩⟩)
  obtain ⟨Z, rfl, hZ⟩ := ints_of hx
  have lZ : Z.length = 4 := by
    rw [List.length_map] at lx
    rw [lx]; rfl
  have lc : (chars (Str.ofString "abcm")).length ≤ 1000000 := by decide
  have lZ' : (Z.map P.int).length ≤ 1000000 := by rw [List.length_map]; omega
  obtain ⟨t, ht, hg⟩ : ∃ t : Ru, P.tup (Z.map P.int) = ruP t ∧ gS t := by
    match Z, lZ with
    | [a, b, d, e], _ =>
      have h1 := hZ a (by simp)
      have h2 := hZ b (by simp)
      have h3 := hZ d (by simp)
      have h4 := hZ e (by simp)
      exact ⟨(a, b, d, e), rfl, ⟨h1.1, by show a ≤ 7; omega⟩, ⟨h2.1, by show b ≤ 7; omega⟩, ⟨h3.1, by show d ≤ 7; omega⟩, ⟨h4.1, by show e ≤ 7; omega⟩⟩
  have : Gb (fun v => ∃ t : Ru, v = ruP t ∧ gS t) (.ok (.p (.tup (Z.map P.int))) [c1]) := by
    rw [Gb_ok]
    exact ⟨hc1, t, ht, hg⟩
  generalize Z.map P.int = ZZ at *
  simp -implicitDefEqProofs [sm_law_starts, runF_e, e1, lc, lZ', wipeS]
  exact ⟨hc1, t.1, t.2.1, t.2.2.1, t.2.2.2, ht, hg⟩
end YS
namespace YS
open PySem PySem.Spec PyProof.Rows L2 Y YZ NS
theorem same_okW {x : P} (h : datP 11 x = true) (st : List Cell) : callF (sm_law_same 12) [.p x, .p x] st = .ok (.p (.bl true)) st := same_refl 11 x h st
end YS
namespace K53
open PySem PySem.Spec PyProof.Rows L2 Y YZ YS NS
def sm_Rules_rules_c : FM := runF 1 1 (sRet (mCallV vLstOfC (mCons (mFld [(13, 1)] (mVar 0)) mNil)))
def sm_Rules_rules : FM := runF 1 1 (sRet (mCallV vLstOf (mCons (mFld [(13, 1)] (mVar 0)) mNil)))
def sm_Rules_starts : FM := runF 1 1 (sRet (mFld [(13, 0)] (mVar 0)))
def sm_Rules_repr : FM := runF 1 1 (sRet (jsF [(mC (.str "Rules(")), (mFmt (mCallV vLen (mCons (mFld [(13, 1)] (mVar 0)) mNil))), (mC (.str " rules)"))] Str.empty))
def sm_Rules_eq : FM := runF 2 2 (sRet (mAndV (mIsO 13 [] (mVar 1)) (mBin (vEqB false) (mFld [(13, 2)] (mVar 0)) (mFld [(13, 2)] (mVar 1)))))
def sm_law_sixty_one : FM := runX 1 1 (sRet (mMakeS 13 3 1 sm_Rules_init (mCons (mTup (mCons (mC (.int 0)) (mCons (mC (.int 0)) (mCons (mC (.int 0)) (mCons (mC (.int 0)) mNil))))) (mCons (mVar 0) (mCons (mVar 0) (mCons (mVar 0) (mCons (mVar 0) (mCons (mVar 0) (mCons (mVar 0) (mCons (mVar 0) (mCons (mVar 0) (mCons (mVar 0) (mCons (mVar 0) (mCons (mVar 0) (mCons (mVar 0) (mCons (mVar 0) (mCons (mVar 0) (mCons (mVar 0) (mCons (mVar 0) (mCons (mVar 0) (mCons (mVar 0) (mCons (mVar 0) (mCons (mVar 0) (mCons (mVar 0) (mCons (mVar 0) (mCons (mVar 0) (mCons (mVar 0) (mCons (mVar 0) (mCons (mVar 0) (mCons (mVar 0) (mCons (mVar 0) (mCons (mVar 0) (mCons (mVar 0) (mCons (mVar 0) (mCons (mVar 0) (mCons (mVar 0) (mCons (mVar 0) (mCons (mVar 0) (mCons (mVar 0) (mCons (mVar 0) (mCons (mVar 0) (mCons (mVar 0) (mCons (mVar 0) (mCons (mVar 0) (mCons (mVar 0) (mCons (mVar 0) (mCons (mVar 0) (mCons (mVar 0) (mCons (mVar 0) (mCons (mVar 0) (mCons (mVar 0) (mCons (mVar 0) (mCons (mVar 0) (mCons (mVar 0) (mCons (mVar 0) (mCons (mVar 0) (mCons (mVar 0) (mCons (mVar 0) (mCons (mVar 0) (mCons (mVar 0) (mCons (mVar 0) (mCons (mVar 0) (mCons (mVar 0) (mCons (mVar 0) mNil))))))))))))))))))))))))))))))))))))))))))))))))))))))))))))))))
def sm_law_sixty : FM := runX 1 1 (sRet (mMakeS 13 3 1 sm_Rules_init (mCons (mTup (mCons (mC (.int 0)) (mCons (mC (.int 0)) (mCons (mC (.int 0)) (mCons (mC (.int 0)) mNil))))) (mCons (mVar 0) (mCons (mVar 0) (mCons (mVar 0) (mCons (mVar 0) (mCons (mVar 0) (mCons (mVar 0) (mCons (mVar 0) (mCons (mVar 0) (mCons (mVar 0) (mCons (mVar 0) (mCons (mVar 0) (mCons (mVar 0) (mCons (mVar 0) (mCons (mVar 0) (mCons (mVar 0) (mCons (mVar 0) (mCons (mVar 0) (mCons (mVar 0) (mCons (mVar 0) (mCons (mVar 0) (mCons (mVar 0) (mCons (mVar 0) (mCons (mVar 0) (mCons (mVar 0) (mCons (mVar 0) (mCons (mVar 0) (mCons (mVar 0) (mCons (mVar 0) (mCons (mVar 0) (mCons (mVar 0) (mCons (mVar 0) (mCons (mVar 0) (mCons (mVar 0) (mCons (mVar 0) (mCons (mVar 0) (mCons (mVar 0) (mCons (mVar 0) (mCons (mVar 0) (mCons (mVar 0) (mCons (mVar 0) (mCons (mVar 0) (mCons (mVar 0) (mCons (mVar 0) (mCons (mVar 0) (mCons (mVar 0) (mCons (mVar 0) (mCons (mVar 0) (mCons (mVar 0) (mCons (mVar 0) (mCons (mVar 0) (mCons (mVar 0) (mCons (mVar 0) (mCons (mVar 0) (mCons (mVar 0) (mCons (mVar 0) (mCons (mVar 0) (mCons (mVar 0) (mCons (mVar 0) (mCons (mVar 0) (mCons (mVar 0) mNil)))))))))))))))))))))))))))))))))))))))))))))))))))))))))))))))
def sm_lams_h : List EM := [(mCallX sm_law_sixty_one (mCons (mVar 0) mNil)),
  (mMeth 13 sm_Rules_rules (mCallX sm_law_sixty (mCons (mVar 0) mNil)) mNil)]
def sm_law_full_rules : FM := nlR (runF 0 1 (sSeq (sSet 0 (mTup (mCons (mC (.int 0)) (mCons (mC (.int 0)) (mCons (mC (.int 1)) (mCons (mC (.int 0)) mNil))))))
    (sSeq (sIf (mTst (mBin (vEqB true) (mTryVF [(34, "InvalidRules", some "index")] 1 (offF 3 sm_lams_h) (mLam 1 3)) (mTup (mCons (mC (.str "InvalidRules")) (mCons (mC (.int 60)) mNil))))) (sRet (mC (.bl false))) sNx)
    (sRet (mBin (vEqB false) (mTryVF [(34, "InvalidRules", some "index")] 1 (offF 3 sm_lams_h) (mLam 1 4)) (mTup (mCons (mC (.str "value")) (mCons (mBin vMulL (mLst (mCons (mVar 0) mNil)) (mC (.int 60))) mNil))))))))
def sm_lams : List EM := [(mMakeS 13 3 1 sm_Rules_init (mCons (mVar 3) (mCons (mVar 6) mNil))),
  (mMakeS 13 3 1 sm_Rules_init (mCons (mVar 7) (mCons (mVar 6) mNil))),
  (mMakeS 13 3 1 sm_Rules_init (mCons (mVar 3) (mCons (mTup (mCons (mC (.int 0)) (mCons (mC (.int 0)) (mCons (mC (.int 200)) (mCons (mC (.int 7)) mNil))))) (mCons (mVar 6) (mCons (mC .non) mNil)))))]
def sm_law : FM := runF 1 10 (sSeq (sSet 1 (mCallF sm_law_bag (mCons (mVar 0) mNil)))
    (sSeq (sFor (mRng1 (mC (.int 10))) (.nm 2) (sSeq (sPut (.tp [(.nm 3), (.nm 4)]) (mTup (mCons (mCallF sm_law_starts (mCons (mVar 1) mNil)) (mCons (mCallF sm_law_rules (mCons (mVar 1) mNil)) mNil))))
    (sSeq (sSet 5 (mCallX sm_law_program (mCons (mVar 3) (mCons (mVar 4) mNil))))
    (sSeq (sExpr (mBm "list" vClear (mMeth 13 sm_Rules_rules_c (mVar 5) mNil) mNil))
    (sSeq (sIf (mOrT (mNotT (mTru (mCallF (sm_law_same 12) (mCons (mLst (mCons (mProp 13 sm_Rules_starts (mVar 5)) (mCons (mMeth 13 sm_Rules_rules (mVar 5) mNil) mNil))) (mCons (mLst (mCons (mVar 3) (mCons (mVar 4) mNil))) mNil))))) (mTst (mBin (vEqB true) (mCallV (vReprO 13 sm_Rules_repr) (mCons (mVar 5) mNil)) (mBin vAdd (mBin vAdd (mC (.str "Rules(")) (mCallV vStr (mCons (mCallV vLen (mCons (mVar 4) mNil)) mNil))) (mC (.str " rules)")))))) (sRet (mC (.bl false))) sNx)
    (sSeq (sIf (mOrT (mTst (mBin (vEqO 13 sm_Rules_eq true) (mVar 5) (mCallX sm_law_program (mCons (mVar 3) (mCons (mVar 4) mNil))))) (mOrT (mTst (mBin (vEqB true) (mBin (vEqO 13 sm_Rules_eq false) (mVar 5) (mCallX sm_law_program (mCons (mVar 3) (mCons (mRevL (mVar 4)) mNil)))) (mBin (vEqB false) (mVar 4) (mRevL (mVar 4))))) (mTst (mBin (vEqO 13 sm_Rules_eq false) (mVar 5) (mVar 3))))) (sRet (mC (.bl false))) sNx)
    (sSeq (sIf (mTst (mBin (vEqO 13 sm_Rules_eq false) (mVar 5) (mCallX sm_law_program (mCons (mBin vAdd (mSl (mVar 3) oNone (oSome (mC (.int 3)))) (mTup (mCons (mBin vSub (mC (.int 7)) (mBin vIx (mVar 3) (mC (.int 3)))) mNil))) (mCons (mVar 4) mNil))))) (sRet (mC (.bl false))) sNx)
    (sSeq (sSet 6 (mCallF sm_law_of (mCons (mVar 1) (mCons (mLst (mCons (mTup (mCons (mC (.int 0)) (mCons (mC (.int 0)) (mCons (mC (.int 1)) mNil)))) (mCons (mTup (mCons (mC (.int 0)) (mCons (mC (.int 0)) (mCons (mC (.int 0)) (mCons (mC (.int 0)) mNil))))) (mCons (mTup (mCons (mC (.int 8)) (mCons (mC (.int 0)) (mCons (mC (.int 1)) (mCons (mC (.int 0)) mNil))))) (mCons (mTup (mCons (mC (.int 0)) (mCons (mNeg (mC (.int 1))) (mCons (mC (.int 1)) (mCons (mC (.int 0)) mNil))))) (mCons (mTup (mCons (mC (.int 0)) (mCons (mC (.int 0)) (mCons (mC (.int 201)) (mCons (mC (.int 0)) mNil))))) (mCons (mTup (mCons (mC (.int 0)) (mCons (mC (.int 0)) (mCons (mC (.int 1)) (mCons (mC (.int 8)) mNil))))) (mCons (mC .non) (mCons (mLst (mCons (mC (.int 0)) (mCons (mC (.int 0)) (mCons (mC (.int 1)) (mCons (mC (.int 0)) mNil))))) (mCons (mTup (mCons (mC (.bl true)) (mCons (mC (.int 0)) (mCons (mC (.int 1)) (mCons (mC (.int 0)) mNil))))) (mCons (mTup (mCons (mC (.int 0)) (mCons (mC (.int 0)) (mCons (mC (.int 1)) (mCons (mC .non) mNil))))) mNil))))))))))) mNil))))
    (sSeq (sSet 7 (mCallF sm_law_of (mCons (mVar 1) (mCons (mLst (mCons (mTup (mCons (mC (.int 0)) (mCons (mC (.int 0)) (mCons (mC (.int 0)) mNil)))) (mCons (mLst (mCons (mC (.int 0)) (mCons (mC (.int 0)) (mCons (mC (.int 0)) (mCons (mC (.int 0)) mNil))))) (mCons (mC .non) (mCons (mTup (mCons (mC (.int 0)) (mCons (mC (.int 0)) (mCons (mC (.int 0)) (mCons (mC (.int 8)) mNil))))) (mCons (mTup (mCons (mC (.int 0)) (mCons (mNeg (mC (.int 1))) (mCons (mC (.int 0)) (mCons (mC (.int 0)) mNil))))) (mCons (mTup (mCons (mC (.int 0)) (mCons (mC (.int 0)) (mCons (mC (.bl true)) (mCons (mC (.int 0)) mNil))))) (mCons (mTup (mCons (mC (.int 0)) (mCons (mC (.int 0)) (mCons (mC (.int 0)) (mCons (mC (.int 0)) (mCons (mC (.int 0)) mNil)))))) (mCons (mC (.int 3)) mNil))))))))) mNil))))
    (sSeq (sSet 8 (mLst (mCons (mLam 0 1) (mCons (mLam 0 0) mNil))))
    (sSeq (sSet 8 (mBin vAdd (mVar 8) (mLst (mCons (mLam 0 2) mNil))))
    (sIf (mTst (mBin (vEqB true) (mLcT (mSrc (mVar 8)) (.nm 9) [9] (tryO [(34, "InvalidRules", some "index")] 0 sm_lams (mVar 9)) finP) (mLst (mCons (mTup (mCons (mC (.str "InvalidRules")) (mCons (mNeg (mC (.int 1))) mNil))) (mCons (mTup (mCons (mC (.str "InvalidRules")) (mCons (mC (.int 0)) mNil))) (mCons (mTup (mCons (mC (.str "InvalidRules")) (mCons (mC (.int 1)) mNil))) mNil)))))) (sRet (mC (.bl false))) sNx))))))))))))
    (sRet (mAndV (mBin (vEqB false) (mC (.int 8)) (mC (.int 8))) (mAndV (mBin (vEqB false) (mMeth 13 sm_Rules_rules (mMakeS 13 3 1 sm_Rules_init (mCons (mTup (mCons (mC (.int 7)) (mCons (mC (.int 7)) (mCons (mC (.int 7)) (mCons (mC (.int 7)) mNil))))) mNil)) mNil) (mLst mNil)) (mCallF sm_law_full_rules mNil))))))
def bE : SMm := (sRet (mAndV (mBin (vEqB false) (mC (.int 8)) (mC (.int 8))) (mAndV (mBin (vEqB false) (mMeth 13 sm_Rules_rules (mMakeS 13 3 1 sm_Rules_init (mCons (mTup (mCons (mC (.int 7)) (mCons (mC (.int 7)) (mCons (mC (.int 7)) (mCons (mC (.int 7)) mNil))))) mNil)) mNil) (mLst mNil)) (mCallF sm_law_full_rules mNil))))
def s6 : SMm := (sSeq (sSet 6 (mCallF sm_law_of (mCons (mVar 1) (mCons (mLst (mCons (mTup (mCons (mC (.int 0)) (mCons (mC (.int 0)) (mCons (mC (.int 1)) mNil)))) (mCons (mTup (mCons (mC (.int 0)) (mCons (mC (.int 0)) (mCons (mC (.int 0)) (mCons (mC (.int 0)) mNil))))) (mCons (mTup (mCons (mC (.int 8)) (mCons (mC (.int 0)) (mCons (mC (.int 1)) (mCons (mC (.int 0)) mNil))))) (mCons (mTup (mCons (mC (.int 0)) (mCons (mNeg (mC (.int 1))) (mCons (mC (.int 1)) (mCons (mC (.int 0)) mNil))))) (mCons (mTup (mCons (mC (.int 0)) (mCons (mC (.int 0)) (mCons (mC (.int 201)) (mCons (mC (.int 0)) mNil))))) (mCons (mTup (mCons (mC (.int 0)) (mCons (mC (.int 0)) (mCons (mC (.int 1)) (mCons (mC (.int 8)) mNil))))) (mCons (mC .non) (mCons (mLst (mCons (mC (.int 0)) (mCons (mC (.int 0)) (mCons (mC (.int 1)) (mCons (mC (.int 0)) mNil))))) (mCons (mTup (mCons (mC (.bl true)) (mCons (mC (.int 0)) (mCons (mC (.int 1)) (mCons (mC (.int 0)) mNil))))) (mCons (mTup (mCons (mC (.int 0)) (mCons (mC (.int 0)) (mCons (mC (.int 1)) (mCons (mC .non) mNil))))) mNil))))))))))) mNil)))) (sSeq (sSet 7 (mCallF sm_law_of (mCons (mVar 1) (mCons (mLst (mCons (mTup (mCons (mC (.int 0)) (mCons (mC (.int 0)) (mCons (mC (.int 0)) mNil)))) (mCons (mLst (mCons (mC (.int 0)) (mCons (mC (.int 0)) (mCons (mC (.int 0)) (mCons (mC (.int 0)) mNil))))) (mCons (mC .non) (mCons (mTup (mCons (mC (.int 0)) (mCons (mC (.int 0)) (mCons (mC (.int 0)) (mCons (mC (.int 8)) mNil))))) (mCons (mTup (mCons (mC (.int 0)) (mCons (mNeg (mC (.int 1))) (mCons (mC (.int 0)) (mCons (mC (.int 0)) mNil))))) (mCons (mTup (mCons (mC (.int 0)) (mCons (mC (.int 0)) (mCons (mC (.bl true)) (mCons (mC (.int 0)) mNil))))) (mCons (mTup (mCons (mC (.int 0)) (mCons (mC (.int 0)) (mCons (mC (.int 0)) (mCons (mC (.int 0)) (mCons (mC (.int 0)) mNil)))))) (mCons (mC (.int 3)) mNil))))))))) mNil)))) (sSeq (sSet 8 (mLst (mCons (mLam 0 1) (mCons (mLam 0 0) mNil)))) (sSeq (sSet 8 (mBin vAdd (mVar 8) (mLst (mCons (mLam 0 2) mNil)))) (sIf (mTst (mBin (vEqB true) (mLcT (mSrc (mVar 8)) (.nm 9) [9] (tryO [(34 , "InvalidRules" , some "index")] 0 sm_lams (mVar 9)) finP) (mLst (mCons (mTup (mCons (mC (.str "InvalidRules")) (mCons (mNeg (mC (.int 1))) mNil))) (mCons (mTup (mCons (mC (.str "InvalidRules")) (mCons (mC (.int 0)) mNil))) (mCons (mTup (mCons (mC (.str "InvalidRules")) (mCons (mC (.int 1)) mNil))) mNil)))))) (sRet (mC (.bl false))) sNx)))))
def s5 : SMm := (sIf (mTst (mBin (vEqO 13 sm_Rules_eq false) (mVar 5) (mCallX sm_law_program (mCons (mBin vAdd (mSl (mVar 3) oNone (oSome (mC (.int 3)))) (mTup (mCons (mBin vSub (mC (.int 7)) (mBin vIx (mVar 3) (mC (.int 3)))) mNil))) (mCons (mVar 4) mNil))))) (sRet (mC (.bl false))) sNx)
def s4 : SMm := (sIf (mOrT (mTst (mBin (vEqO 13 sm_Rules_eq true) (mVar 5) (mCallX sm_law_program (mCons (mVar 3) (mCons (mVar 4) mNil))))) (mOrT (mTst (mBin (vEqB true) (mBin (vEqO 13 sm_Rules_eq false) (mVar 5) (mCallX sm_law_program (mCons (mVar 3) (mCons (mRevL (mVar 4)) mNil)))) (mBin (vEqB false) (mVar 4) (mRevL (mVar 4))))) (mTst (mBin (vEqO 13 sm_Rules_eq false) (mVar 5) (mVar 3))))) (sRet (mC (.bl false))) sNx)
def s3 : SMm := (sIf (mOrT (mNotT (mTru (mCallF (sm_law_same 12) (mCons (mLst (mCons (mProp 13 sm_Rules_starts (mVar 5)) (mCons (mMeth 13 sm_Rules_rules (mVar 5) mNil) mNil))) (mCons (mLst (mCons (mVar 3) (mCons (mVar 4) mNil))) mNil))))) (mTst (mBin (vEqB true) (mCallV (vReprO 13 sm_Rules_repr) (mCons (mVar 5) mNil)) (mBin vAdd (mBin vAdd (mC (.str "Rules(")) (mCallV vStr (mCons (mCallV vLen (mCons (mVar 4) mNil)) mNil))) (mC (.str " rules)")))))) (sRet (mC (.bl false))) sNx)
def s2 : SMm := (sExpr (mBm "list" vClear (mMeth 13 sm_Rules_rules_c (mVar 5) mNil) mNil))
def sm_law2 : FM := runF 1 10 (sSeq (sSet 1 (mCallF sm_law_bag (mCons (mVar 0) mNil))) (sSeq (sFor (mRng1 (mC (.int 10))) (.nm 2) (sSeq (sPut (.tp [(.nm 3), (.nm 4)]) (mTup (mCons (mCallF sm_law_starts (mCons (mVar 1) mNil)) (mCons (mCallF sm_law_rules (mCons (mVar 1) mNil)) mNil)))) (sSeq (sSet 5 (mCallX sm_law_program (mCons (mVar 3) (mCons (mVar 4) mNil)))) (sSeq s2 (sSeq s3 (sSeq s4 (sSeq s5 s6))))))) bE))
theorem law_eq : sm_law = sm_law2 := rfl
def Yes (r : Res W) : Prop := ∃ st, r = .ok (.p (.bl true)) st
abbrev sg (a0 a2 a3 a4 a5 a6 a7 a8 a9 : Option W) : Sg := [a0, some (.r 0), a2, a3, a4, a5, a6, a7, a8, a9]
abbrev InvO (a0 : Option W) : Sg → List Cell → Prop := fun σ st => ∃ c rest a2 a3 a4 a5 a6 a7 a8 a9, GB c ∧ σ = sg a0 a2 a3 a4 a5 a6 a7 a8 a9 ∧ st = c :: rest
theorem new_cell {F : FM} {xs : List P} {c : Cell} (h : F (xs.map W.p) [] = .ok (.r 0) [c]) (hp : plainC c = true) (st : List Cell) : callF F (xs.map W.p) st = .ok (.r st.length) (st ++ [c]) := by
  unfold callF
  rw [argRefs_pure, argIn_pure, if_pos List.nodup_nil]
  show callEnd 0 [] st (F (xs.map W.p) []) = _
  rw [h]
  simp [Y.callEnd, Y.putCells, hp]
section
variable {t t' : Ru} {R R' : List Ru}
theorem rules_get (t : Ru) (hR : R.length ≤ 1000) (st : List Cell) : callF sm_Rules_rules [.p (ruO t R)] st = .ok (.p (.lst (R.map ruP))) st := by
  have : (R.map ruP).length ≤ 1000000 := by rw [List.length_map]; omega
  refine Pu.call1 (Pu.of1 ?_) st
  unfold ruO ruL
  generalize R.map ruP = RP at *
  simp -implicitDefEqProofs [sm_Rules_rules, runF_e, this]
theorem rules_cell (t : Ru) (hR : R.length ≤ 1000) (st : List Cell) : callF sm_Rules_rules_c [.p (ruO t R)] st = .ok (.r st.length) (st ++ [.lst ((R.map ruP).map W.p)]) := by
  refine new_cell (xs := [ruO t R]) ?_ (by show (pures ((R.map ruP).map W.p)).isSome = true; rw [pures_map]; rfl) st
  have : (R.map ruP).length ≤ 1000000 := by rw [List.length_map]; omega
  show sm_Rules_rules_c [.p (ruO t R)] [] = _
  unfold ruO ruL
  generalize R.map ruP = RP at *
  simp -implicitDefEqProofs [sm_Rules_rules_c, runF_e, this]
theorem starts_get (t : Ru) (R : List Ru) (st : List Cell) : callF sm_Rules_starts [.p (ruO t R)] st = .ok (.p (ruP t)) st := by
  refine Pu.call1 (Pu.of1 ?_) st
  unfold ruO ruL
  generalize R.map ruP = RP at *
  generalize ruP t = T at *
  simp -implicitDefEqProofs [sm_Rules_starts, runF_e]
theorem ok_ru (n : Nat) (q : Ru) : okP (n + 2) (ruP q) = true := by simp [ruP]
theorem ok_key (t : Ru) (R : List Ru) : okP 64 (.tup [ruP t, .tup (R.map ruP)]) = true := by
  have h : (R.map ruP).all (okP 62) = true := by
    rw [List.all_map]
    exact List.all_eq_true.mpr fun q _ => ok_ru 60 q
  have h1 := ok_ru 61 t
  show ([ruP t, P.tup (R.map ruP)]).all (okP 63) = true
  rw [List.all_cons, h1, List.all_cons]
  show (true && ((R.map ruP).all (okP 62) && true)) = true
  rw [h]; rfl
theorem ok_lst (R : List Ru) : okP 64 (.lst (R.map ruP)) = true := by
  show (R.map ruP).all (okP 63) = true
  rw [List.all_map]
  exact List.all_eq_true.mpr fun q _ => ok_ru 61 q
theorem eq_ok (t t' : Ru) (R R' : List Ru) (st : List Cell) : callF sm_Rules_eq [.p (ruO t R), .p (ruO t' R')] st = .ok (.p (.bl (pEq (ruP t) (ruP t') && pEqs (R.map ruP) (R'.map ruP)))) st := by
  refine Pu.call2 (Pu.of2 ?_) st
  have v := fun st => vEqB_data (n := false) (st := st) (ok_key t R) (ok_key t' R')
  have e : pEq (.tup [ruP t, .tup (R.map ruP)]) (.tup [ruP t', .tup (R'.map ruP)]) = (pEq (ruP t) (ruP t') && pEqs (R.map ruP) (R'.map ruP)) := by
    rw [pEq_tup, pEqs_cons, pEqs_cons, pEq_tup]
    simp
  rw [e] at v
  have c1 : ∀ st, clsOf st (.p (ruO t' R')) = some 13 := fun _ => rfl
  unfold ruO ruL at *
  generalize R.map ruP = RP at *
  generalize R'.map ruP = RP' at *
  generalize ruP t = T at *
  generalize ruP t' = T' at *
  simp -implicitDefEqProofs [sm_Rules_eq, runF_e, v, c1]
theorem eq_tup (t : Ru) (R : List Ru) (l : List P) (st : List Cell) : callF sm_Rules_eq [.p (ruO t R), .p (.tup l)] st = .ok (.p (.bl false)) st := by
  refine Pu.call2 (Pu.of2 ?_) st
  have c1 : ∀ st, clsOf st (.p (.tup l)) = none := fun _ => rfl
  have c2 : ∀ st, tyName st (.p (.tup l)) = some "tuple" := fun _ => rfl
  simp -implicitDefEqProofs [sm_Rules_eq, runF_e, c1, c2]
def shown (n : Nat) : Str := (Str.ofString "Rules(" ++ Str.ofString (toString (n : Int))) ++ Str.ofString " rules)"
theorem num8 : ∀ n < 9, "Rules(".length ≤ 1000000 ∧ Nat.log2 n < 1920 ∧ "Rules(".length + ((n : Nat) : Int).repr.length ≤ 1000000 ∧ "Rules(".length + ((n : Nat) : Int).repr.length + " rules)".length ≤ 1000000 ∧ Str.empty ++ Str.ofString "Rules(" ++ Str.ofString ((n : Nat) : Int).repr ++ Str.ofString " rules)" = shown n ∧ shown n = Str.ofString "Rules(" ++ Str.ofString ((n : Nat) : Int).repr ++ Str.ofString " rules)" := by decide +kernel
theorem repr_ok (t : Ru) (hR : R.length ≤ 8) (st : List Cell) : callF sm_Rules_repr [.p (ruO t R)] st = .ok (.p (.str (shown R.length))) st := by
  refine Pu.call1 (Pu.of1 ?_) st
  have : (R.map ruP).length = R.length := List.length_map ..
  unfold ruO ruL
  generalize R.map ruP = RP at *
  generalize R.length = n at *
  obtain ⟨q1, q2, q3, q4, q5, q6⟩ := num8 n (by omega)
  simp -implicitDefEqProofs [sm_Rules_repr, runF_e, this]
  exact ⟨q1, q2, q3, q4, q5⟩
end
theorem s2_ok {t : Ru} {R : List Ru} (hR : R.length ≤ 8) (c : Cell) (rest : List Cell) (a0 a2 a3 a4 a6 a7 a8 a9 : Option W) :
    s2 (sg a0 a2 a3 a4 (some (.p (ruO t R))) a6 a7 a8 a9) (c :: rest) = .ok .nx (sg a0 a2 a3 a4 (some (.p (ruO t R))) a6 a7 a8 a9) (c :: (rest ++ [.lst []])) := by
  have g := fun st => rules_cell t (R := R) (by omega) st
  have cl := cls13 t R
  have ll : ((R.map ruP).map W.p).length < 1000000 := by rw [List.length_map, List.length_map]; omega
  generalize (R.map ruP).map W.p = RW at *
  generalize ruO t R = O at *
  simp -implicitDefEqProofs [s2, g, cl, vClear, ll]
theorem s3_ok {t : Ru} {R : List Ru} (hR : R.length ≤ 8) (a0 a2 a6 a7 a8 a9 : Option W) (st : List Cell) :
    s3 (sg a0 a2 (some (.p (ruP t))) (some (.p (.lst (R.map ruP)))) (some (.p (ruO t R))) a6 a7 a8 a9) st = .ok .nx (sg a0 a2 (some (.p (ruP t))) (some (.p (.lst (R.map ruP)))) (some (.p (ruO t R))) a6 a7 a8 a9) st := by
  have g := fun st => rules_get t (R := R) (by omega) st
  have gs := fun st => starts_get t R st
  have gr := fun st => repr_ok t (R := R) hR st
  have cl := cls13 t R
  have sm := fun st => same_okW (x := .lst [ruP t, .lst (R.map ruP)]) (by
    have : (R.map ruP).all (datP 9) = true := by
      rw [List.all_map]
      exact List.all_eq_true.mpr fun q _ => by simp [ruP, datP]
    simp [datP, ruP, this, show R.length ≤ 100000 by omega]) st
  have ll : (R.map ruP).length = R.length := List.length_map ..
  have l1 : R.length ≤ 1000000 := by omega
  generalize R.map ruP = RP at *
  generalize ruP t = T at *
  generalize ruO t R = O at *
  generalize R.length = n at *
  obtain ⟨q1, q2, q3, q4, q5, q6⟩ := num8 n (by omega)
  simp -implicitDefEqProofs [s3, g, gs, gr, cl, sm, ll, l1]
  rw [if_pos q2, if_pos q3, if_pos q4, if_pos q6]
theorem s4_ok {t : Ru} {R : List Ru} (ht : gS t) (hg : ∀ q ∈ R, gR q) (hR : R.length ≤ 8) (a0 a2 a6 a7 a8 a9 : Option W) (st : List Cell) :
    s4 (sg a0 a2 (some (.p (ruP t))) (some (.p (.lst (R.map ruP)))) (some (.p (ruO t R))) a6 a7 a8 a9) st = .ok .nx (sg a0 a2 (some (.p (ruP t))) (some (.p (.lst (R.map ruP)))) (some (.p (ruO t R))) a6 a7 a8 a9) st := by
  have p1 := fun st => law_program_ok ht hg hR st
  have p2 := fun st => law_program_ok (R := R.reverse) ht (fun q hq => hg q (List.mem_reverse.mp hq)) (by rw [List.length_reverse]; exact hR) st
  have e1 := fun st => eq_ok t t R R st
  have e2 := fun st => eq_ok t t R R.reverse st
  have e3 := fun st => eq_tup t R [.int t.1, .int t.2.1, .int t.2.2.1, .int t.2.2.2] st
  have tt : pEq (ruP t) (ruP t) = true := pEq_self 2 _ (ok_ru 0 t)
  have rr : pEqs (R.map ruP) (R.map ruP) = true := by
    have := pEq_self 64 _ (ok_lst R)
    rw [pEq_lst] at this
    exact this
  rw [tt, rr] at e1
  rw [tt, Bool.true_and] at e2
  have v := fun st => vEqB_data (n := false) (st := st) (ok_lst R) (ok_lst R.reverse)
  rw [pEq_lst] at v
  have rv : R.reverse.map ruP = (R.map ruP).reverse := List.map_reverse ..
  have cl := cls13 t R
  have cl2 := cls13 t R.reverse
  have ty : ∀ st, tyOk 13 st (.p (ruO t R.reverse)) = true := fun st => tyOk_obj 13 _
  have ty2 : ∀ st, tyOk 13 st (.p (ruO t R)) = true := fun st => tyOk_obj 13 _
  have lR : (R.map ruP).length ≤ 1000000 := by rw [List.length_map]; omega
  rw [rv] at p2 e2 v
  have et : ruP t = .tup [.int t.1, .int t.2.1, .int t.2.2.1, .int t.2.2.2] := rfl
  rw [← et] at e3
  have ty3 : ∀ st, tyOk 13 st (.p (ruP t)) = true := fun st => rfl
  generalize ruO t R.reverse = O2 at *
  generalize ruO t R = O at *
  generalize ruP t = T at *
  generalize pEqs (R.map ruP) (R.map ruP).reverse = B at *
  generalize R.map ruP = RP at *
  cases B <;> simp -implicitDefEqProofs [s4, p1, p2, e1, e2, e3, v, cl, cl2, ty, ty2, ty3, lR]
theorem s5_ok {t : Ru} {R : List Ru} (ht : gS t) (hg : ∀ q ∈ R, gR q) (hR : R.length ≤ 8) (a0 a2 a6 a7 a8 a9 : Option W) (st : List Cell) :
    s5 (sg a0 a2 (some (.p (ruP t))) (some (.p (.lst (R.map ruP)))) (some (.p (ruO t R))) a6 a7 a8 a9) st = .ok .nx (sg a0 a2 (some (.p (ruP t))) (some (.p (.lst (R.map ruP)))) (some (.p (ruO t R))) a6 a7 a8 a9) st := by
  obtain ⟨a, b, c, d⟩ := t
  obtain ⟨g1, g2, g3, g4⟩ := id ht
  have p1 := fun st => law_program_ok (t := (a, b, c, 7 - d)) (R := R) ⟨g1, g2, g3, by constructor <;> simp at g4 ⊢ <;> omega⟩ hg hR st
  have e1 := fun st => eq_ok (a, b, c, d) (a, b, c, 7 - d) R R st
  have ne : pEq (ruP (a, b, c, d)) (ruP (a, b, c, 7 - d)) = false := by
    unfold ruP
    rw [pEq_tup]
    have : ¬ d = 7 - d := by omega
    simp [this]
  rw [ne, Bool.false_and] at e1
  have cl := cls13 (a, b, c, d) R
  have ty : ∀ st, tyOk 13 st (.p (ruO (a, b, c, 7 - d) R)) = true := fun st => tyOk_obj 13 _
  generalize ruO (a, b, c, 7 - d) R = O2 at *
  generalize ruO (a, b, c, d) R = O at *
  generalize R.map ruP = RP at *
  unfold ruP at *
  simp -implicitDefEqProofs at p1
  simp -implicitDefEqProofs [s5, p1, e1, cl, ty]
def ruB : SMm := (sIf (mOrT (mTst (mBin vGe (mVar 3) (mC (.int 60)))) (mNotT (mTru (mCallF sm_is_rule (mCons (mVar 4) mNil))))) (sRaise1 34 (mVar 3) "InvalidRules") sNx)
theorem enm_app : ∀ (l m : List P) (k : Nat), enmL k (l ++ m) = enmL k l ++ enmL (k + l.length) m
  | [], m, k => by simp [enmL]
  | x :: l, m, k => by
    rw [List.cons_append, enmL, enmL, enm_app l m (k + 1), List.cons_append, List.length_cons, show k + 1 + l.length = k + (l.length + 1) by omega]
theorem rules_run (x1 x2 : W) (rest : List W) : ∀ (R : List Ru) (k : Nat) (x3 x4 : Option W), (∀ q ∈ R, gR q) → k + R.length ≤ 60 →
    ∃ y3 y4, forL (.tp [.nm 3, .nm 4]) ruB (enmL k (R.map ruP) ++ rest) [some (.r 0), some x1, some x2, x3, x4, none] [.ins 13 []] = forL (.tp [.nm 3, .nm 4]) ruB rest [some (.r 0), some x1, some x2, y3, y4, none] [.ins 13 []]
  | [], k, x3, x4, _, _ => ⟨x3, x4, by simp [enmL]⟩
  | q :: R, k, x3, x4, h, hl => by
    rw [List.length_cons] at hl
    obtain ⟨y3, y4, e⟩ := rules_run x1 x2 rest R (k + 1) (some (.p (.int (k : Nat)))) (some (.p (ruP q))) (fun p hp => h p (List.mem_cons_of_mem _ hp)) (by omega)
    refine ⟨y3, y4, ?_⟩
    have ir := fun st => is_rule_ok (h q List.mem_cons_self) st
    have hn : ¬ (60 : Int) ≤ k := by omega
    rw [List.map_cons, enmL, List.cons_append, forL_cons]
    generalize ruP q = Q at *
    have st : forP (.tp [.nm 3, .nm 4]) ruB (enmL (k + 1) (R.map ruP) ++ rest) [.ins 13 []] ((Tg.tp [.nm 3, .nm 4]).put (.p (.tup [.int (k : Nat), Q])) [some (.r 0), some x1, some x2, x3, x4, none]) = forL (.tp [.nm 3, .nm 4]) ruB (enmL (k + 1) (R.map ruP) ++ rest) [some (.r 0), some x1, some x2, some (.p (.int (k : Nat))), some (.p Q), none] [.ins 13 []] := by
      simp -implicitDefEqProofs [ruB, ir, hn, -forL_cons]
    rw [st]
    exact e
theorem init_bad {t : Ru} {R : List Ru} (ht : gS t) (hR : ∀ q ∈ R, gR q) (hl : R.length ≤ 60) (y : P) (tl : List P) (hy : R.length = 60 ∨ ∀ st, callF sm_is_rule [.p y] st = .ok (.p (.bl false)) st) :
    ∃ r, sm_Rules_init [.r 0, .p (ruP t), .p (.tup (R.map ruP ++ y :: tl))] [.ins 13 []] = .exc ⟨34, [.int R.length, .str (Str.ofString "InvalidRules")]⟩ (.ins 13 [] :: r) := by
  obtain ⟨⟨a0, a1⟩, ⟨b0, b1⟩, ⟨c0, c1⟩, ⟨d0, d1⟩⟩ := ht
  have e1 : ∀ (x : W) st, mEnmA (mVar 2) ([some (.r 0), some x, some (.p (.tup (R.map ruP ++ y :: tl))), none, none, none] : Sg) st = .ok (srcL (enmL 0 (R.map ruP ++ y :: tl))) st := fun x st => mEnmA_tup _ _ _ _ _ rfl
  have e2 := enm_app (R.map ruP) (y :: tl) 0
  rw [List.length_map, Nat.zero_add] at e2
  rw [e2] at e1
  obtain ⟨y3, y4, e3⟩ := rules_run (.p (ruP t)) (.p (.tup (R.map ruP ++ y :: tl))) (enmL R.length (y :: tl)) R 0 none none hR (by omega)
  refine ⟨[], ?_⟩
  have e3 : forL (.tp [.nm 3, .nm 4]) ruB (enmL 0 (R.map ruP) ++ enmL R.length (y :: tl)) [some (.r 0), some (.p (.tup [.int t.1, .int t.2.1, .int t.2.2.1, .int t.2.2.2])), some (.p (.tup (R.map ruP ++ y :: tl))), none, none, none] [.ins 13 []] = _ := e3
  have e4 : (sIf (mOrT (mTst (mBin vGe (mVar 3) (mC (.int 60)))) (mNotT (mTru (mCallF sm_is_rule (mCons (mVar 4) mNil))))) (sRaise1 34 (mVar 3) "InvalidRules") sNx) = ruB := rfl
  generalize R.map ruP ++ y :: tl = L at *
  unfold ruP at *
  rw [sm_Rules_init, e4]
  have fin : forL (.tp [.nm 3, .nm 4]) ruB (enmL R.length (y :: tl)) [some (.r 0), some (.p (.tup [.int t.1, .int t.2.1, .int t.2.2.1, .int t.2.2.2])), some (.p (.tup L)), y3, y4, none] [.ins 13 []] = .exc ⟨34, [.int R.length, .str (Str.ofString "InvalidRules")]⟩ [some (.r 0), some (.p (.tup [.int t.1, .int t.2.1, .int t.2.2.1, .int t.2.2.2])), some (.p (.tup L)), some (.p (.int R.length)), some (.p y), none] [.ins 13 []] := by
    rw [enmL, forL_cons]
    rcases hy with hy | hy
    · rw [hy]
      simp -implicitDefEqProofs [ruB]
    · by_cases h6 : (60 : Int) ≤ R.length
      · simp -implicitDefEqProofs [ruB, h6]
      · simp -implicitDefEqProofs [ruB, h6, hy]
  rw [fin] at e3
  generalize ruB = BB at *
  simp -implicitDefEqProofs [runX_e, is_within_int, lcL_cons, lcL_nil, a0, a1, b0, b1, c0, c1, d0, d1, e1, e3, -forL_cons]
theorem st_args (x : P) (l : List P) (h : l.length ≤ 1000000) : stArgs 1 (.p x :: l.map W.p) = some [.p x, .p (.tup l)] := by
  unfold stArgs
  rw [if_pos (by simp)]
  show (match pures (l.map W.p) with | some l => if l.length ≤ LIM then some ([W.p x] ++ [W.p (.tup l)]) else none | none => none) = _
  rw [pures_map]
  show (if l.length ≤ LIM then _ else none) = _
  rw [if_pos (by unfold LIM; omega)]
  rfl
theorem make_bad {t : Ru} {R : List Ru} (ht : gS t) (hR : ∀ q ∈ R, gR q) (hl : R.length ≤ 60) (y : P) (tl : List P) (htl : tl.length ≤ 900) (hy : R.length = 60 ∨ ∀ st, callF sm_is_rule [.p y] st = .ok (.p (.bl false)) st) (st : List Cell) :
    makeS 13 3 1 sm_Rules_init (.p (ruP t) :: (R.map ruP ++ y :: tl).map W.p) st = .exc ⟨34, [.int R.length, .str (Str.ofString "InvalidRules")]⟩ st := by
  unfold makeS
  rw [st_args _ _ (by rw [List.length_append, List.length_map, List.length_cons]; omega)]
  obtain ⟨r, e⟩ := init_bad ht hR hl y tl hy
  exact makeX_exc (xs := [ruP t, .tup (R.map ruP ++ y :: tl)]) ⟨_, r, e⟩ st
def oddR : List P := [.tup [.int 0, .int 0, .int 1], .tup [.int 0, .int 0, .int 0, .int 0], .tup [.int 8, .int 0, .int 1, .int 0], .tup [.int 0, .int (-1), .int 1, .int 0], .tup [.int 0, .int 0, .int 201, .int 0], .tup [.int 0, .int 0, .int 1, .int 8], .non, .lst [.int 0, .int 0, .int 1, .int 0], .tup [.bl true, .int 0, .int 1, .int 0], .tup [.int 0, .int 0, .int 1, .non]]
def badS : List P := [.tup [.int 0, .int 0, .int 0], .lst [.int 0, .int 0, .int 0, .int 0], .non, .tup [.int 0, .int 0, .int 0, .int 8], .tup [.int 0, .int (-1), .int 0, .int 0], .tup [.int 0, .int 0, .bl true, .int 0], .tup [.int 0, .int 0, .int 0, .int 0, .int 0], .int 3]
theorem is_within_odd {x : P} (h : x = .bl true ∨ x = .non) (a b : Int) (st : List Cell) : callF sm_is_within [.p x, .p (.int a), .p (.int b)] st = .ok (.p (.bl false)) st := by
  refine Pu.call3 (Pu.of3 ?_) st
  have n1 : ∀ st, callF sm_is_number [.p (.bl true)] st = .ok (.p (.bl false)) st := fun st => Pu.call1 (Pu.of1 (by simp [sm_is_number, runF_e])) st
  have n2 : ∀ st, callF sm_is_number [.p .non] st = .ok (.p (.bl false)) st := fun st => Pu.call1 (Pu.of1 (by simp [sm_is_number, runF_e])) st
  rcases h with rfl | rfl <;> simp [sm_is_within, runF_e, n1, n2]
theorem odd_no {y : P} (h : y ∈ oddR) (st : List Cell) : callF sm_is_rule [.p y] st = .ok (.p (.bl false)) st := by
  refine Pu.call1 (Pu.of1 ?_) st
  have w1 := fun a b st => is_within_odd (.inl rfl) a b st
  have w2 := fun a b st => is_within_odd (.inr rfl) a b st
  simp only [oddR, List.mem_cons, List.not_mem_nil, or_false] at h
  rcases h with rfl | rfl | rfl | rfl | rfl | rfl | rfl | rfl | rfl | rfl <;> simp [sm_is_rule, runF_e, is_within_int, lcL_cons, lcL_nil, w1, w2]
theorem bad_no {x : P} (h : x ∈ badS) (y : P) (st : List Cell) : makeS 13 3 1 sm_Rules_init [.p x, .p y] st = .exc ⟨34, [.int (-1), .str (Str.ofString "InvalidRules")]⟩ st := by
  unfold makeS
  have e := st_args x [y] (by simp)
  have e : stArgs 1 [.p x, .p y] = some [.p x, .p (.tup [y])] := e
  rw [e]
  refine makeX_exc (xs := [x, .tup [y]]) ⟨.ins 13 [], [], ?_⟩ st
  have w1 := fun a b st => is_within_odd (.inl rfl) a b st
  simp only [badS, List.mem_cons, List.not_mem_nil, or_false] at h
  rcases h with rfl | rfl | rfl | rfl | rfl | rfl | rfl | rfl <;> simp [sm_Rules_init, runX_e, is_within_int, lcL_cons, lcL_nil, w1]
theorem s6_ok (F : SR → Prop) {t : Ru} (ht : gS t) {c : Cell} (hc : GB c) (rest : List Cell) (a0 a2 a4 a5 a6 a7 a8 a9 : Option W) :
    Sq (InvO a0) F (s6 (sg a0 a2 (some (.p (ruP t))) a4 a5 a6 a7 a8 a9) (c :: rest)) := by
  obtain ⟨y, c1, e1, hc1, hy⟩ := (of_bg (l := oddR) (by simp [oddR]) (by simp [oddR])).call1 hc rest
  obtain ⟨x, c2, e2, hc2, hx⟩ := (of_bg (l := badS) (by simp [badS]) (by simp [badS])).call1 hc1 rest
  have m1 := fun st => bad_no hx y st
  have m2 : ∀ st, makeS 13 3 1 sm_Rules_init [.p (ruP t), .p y] st = .exc ⟨34, [.int 0, .str (Str.ofString "InvalidRules")]⟩ st := fun st => make_bad (R := []) ht (fun q hq => by simp at hq) (by simp) y [] (by simp) (.inr fun st => odd_no hy st) st
  have m3 : ∀ st, makeS 13 3 1 sm_Rules_init [.p (ruP t), .p (.tup [.int 0, .int 0, .int 200, .int 7]), .p y, .p .non] st = .exc ⟨34, [.int 1, .str (Str.ofString "InvalidRules")]⟩ st := fun st => make_bad (R := [(0, 0, 200, 7)]) ht (fun q hq => by
    rw [List.mem_singleton.mp hq]
    exact ⟨⟨by decide, by decide⟩, ⟨by decide, by decide⟩, ⟨by decide, by decide⟩, ⟨by decide, by decide⟩⟩) (by simp) y [.non] (by simp) (.inr fun st => odd_no hy st) st
  have v : ∀ st, vEqB true (.p (.lst [.tup [.str (Str.ofString "InvalidRules"), .int (-1)], .tup [.str (Str.ofString "InvalidRules"), .int 0], .tup [.str (Str.ofString "InvalidRules"), .int 1]])) (.p (.lst [.tup [.str (Str.ofString "InvalidRules"), .int (-1)], .tup [.str (Str.ofString "InvalidRules"), .int 0], .tup [.str (Str.ofString "InvalidRules"), .int 1]])) st = .ok (.p (.bl false)) st := fun st => by
    rw [vEqB_data (by decide +kernel) (by decide +kernel), pEq_self 64 _ (by decide +kernel)]; rfl
  unfold oddR at e1
  unfold badS at e2
  generalize ruP t = T at *
  conv => arg 3; simp -implicitDefEqProofs [s6, e1, e2, lcL_cons, lcL_nil, sm_lams, List.lookup, mMakeS_e, m1, m2, m3, v]
  exact ⟨_, _, _, _, _, _, _, _, _, _, hc2, rfl, rfl⟩
def t0 : Ru := (0, 0, 0, 0)
def r1 : Ru := (0, 0, 1, 0)
theorem g_t0 : gS t0 := ⟨⟨by decide, by decide⟩, ⟨by decide, by decide⟩, ⟨by decide, by decide⟩, ⟨by decide, by decide⟩⟩
theorem g_r1 : gR r1 := ⟨⟨by decide, by decide⟩, ⟨by decide, by decide⟩, ⟨by decide, by decide⟩, ⟨by decide, by decide⟩⟩
theorem g_rep (n : Nat) : ∀ q ∈ List.replicate n r1, gR q := fun q hq => by rw [(List.mem_replicate.mp hq).2]; exact g_r1
def chn : Nat → AM
  | 0 => mNil
  | n + 1 => mCons (mVar 0) (chn n)
theorem chn_ok (x : W) (st : List Cell) : ∀ n, chn n [some x] st = .ok (List.replicate n x) st
  | 0 => rfl
  | n + 1 => by
    show mCons (mVar 0) (chn n) [some x] st = _
    simp -implicitDefEqProofs [chn_ok x st n, List.replicate_succ]
theorem sixty_eq : sm_law_sixty = runX 1 1 (sRet (mMakeS 13 3 1 sm_Rules_init (mCons (mTup (mCons (mC (.int 0)) (mCons (mC (.int 0)) (mCons (mC (.int 0)) (mCons (mC (.int 0)) mNil))))) (chn 60)))) := rfl
theorem sixty1_eq : sm_law_sixty_one = runX 1 1 (sRet (mMakeS 13 3 1 sm_Rules_init (mCons (mTup (mCons (mC (.int 0)) (mCons (mC (.int 0)) (mCons (mC (.int 0)) (mCons (mC (.int 0)) mNil))))) (chn 61)))) := rfl
theorem sixty_ok (st : List Cell) : callF sm_law_sixty [.p (ruP r1)] st = .ok (.p (ruO t0 (List.replicate 60 r1))) st := by
  refine Pu.call1 (Pu.of1 ?_) st
  have c := fun st => chn_ok (.p (ruP r1)) st 60
  have m := fun st => rules_make (R := List.replicate 60 r1) g_t0 (g_rep 60) (by simp) st
  have e : W.p (ruP t0) :: ((List.replicate 60 r1).map ruP).map W.p = W.p (.tup [.int 0, .int 0, .int 0, .int 0]) :: List.replicate 60 (.p (ruP r1)) := by
    rw [List.map_replicate, List.map_replicate]; rfl
  rw [e] at m
  rw [sixty_eq, runX_e]
  generalize ruO t0 (List.replicate 60 r1) = O at *
  generalize List.replicate 60 (W.p (ruP r1)) = L at *
  generalize chn 60 = C at *
  generalize ruP r1 = Q at *
  simp -implicitDefEqProofs [c, mMakeS_e, m]
theorem sixty1_ok (st : List Cell) : callF sm_law_sixty_one [.p (ruP r1)] st = .exc ⟨34, [.int 60, .str (Str.ofString "InvalidRules")]⟩ st := by
  refine Ge.call1 ?_ st
  have c := fun st => chn_ok (.p (ruP r1)) st 61
  have m := fun st => make_bad (R := List.replicate 60 r1) g_t0 (g_rep 60) (by simp) (ruP r1) [] (by simp) (.inl (by simp)) st
  have e : W.p (ruP t0) :: ((List.replicate 60 r1).map ruP ++ ruP r1 :: []).map W.p = W.p (.tup [.int 0, .int 0, .int 0, .int 0]) :: List.replicate 61 (.p (ruP r1)) := by
    rw [List.map_append, List.map_replicate, List.map_replicate]; rfl
  rw [e, List.length_replicate] at m
  rw [sixty1_eq, runX_e]
  generalize List.replicate 61 (W.p (ruP r1)) = L at *
  generalize chn 61 = C at *
  generalize ruP r1 = Q at *
  simp -implicitDefEqProofs [c, mMakeS_e, m]
theorem full_ok (st : List Cell) : callF sm_law_full_rules [] st = .ok (.p (.bl true)) st := by
  refine Pu.call (xs := []) ?_ st
  show Gv (sm_law_full_rules [] []) _
  have q1 := fun st => sixty1_ok st
  have q2 := fun st => sixty_ok st
  have g := fun st => rules_get t0 (R := List.replicate 60 r1) (by simp) st
  have cl := cls13 t0 (List.replicate 60 r1)
  have er : ruP r1 = .tup [.int 0, .int 0, .int 1, .int 0] := rfl
  have l0 : ∀ σ st, mTryVF [(34, "InvalidRules", some "index")] 1 (offF 3 sm_lams_h) (mLam 1 3) σ st = mTryL [(34, "InvalidRules", some "index")] (mCallX sm_law_sixty_one (mCons (mVar 0) mNil)) σ st := fun _ _ => rfl
  have l1 : ∀ σ st, mTryVF [(34, "InvalidRules", some "index")] 1 (offF 3 sm_lams_h) (mLam 1 4) σ st = mTryL [(34, "InvalidRules", some "index")] (mMeth 13 sm_Rules_rules (mCallX sm_law_sixty (mCons (mVar 0) mNil)) mNil) σ st := fun _ _ => rfl
  have rep : (List.replicate 60 r1).map ruP = List.replicate 60 (ruP r1) := List.map_replicate ..
  have v1 : ∀ st, vEqB true (.p (.tup [.str (Str.ofString "InvalidRules"), .int 60])) (.p (.tup [.str (Str.ofString "InvalidRules"), .int 60])) st = .ok (.p (.bl false)) st := fun st => by
    rw [vEqB_data (by decide +kernel) (by decide +kernel), pEq_self 64 _ (by decide +kernel)]; rfl
  have ok : okP 64 (.tup [.str (Str.ofString "value"), .lst (List.replicate 60 (ruP r1))]) = true := by decide +kernel
  have v2 : ∀ st, vEqB false (.p (.tup [.str (Str.ofString "value"), .lst (List.replicate 60 (ruP r1))])) (.p (.tup [.str (Str.ofString "value"), .lst (List.replicate 60 (ruP r1))])) st = .ok (.p (.bl true)) st := fun st => by
    rw [vEqB_data ok ok, pEq_self 64 _ ok]; rfl
  have mu : ∀ st, vMulL (.p (.lst [ruP r1])) (.p (.int 60)) st = .ok (.p (.lst (List.replicate 60 (ruP r1)))) st := fun st => rfl
  rw [rep] at g
  generalize ruO t0 (List.replicate 60 r1) = O at *
  unfold sm_law_full_rules nlR
  generalize offF 3 sm_lams_h = FF at *
  rw [er] at q1 q2 mu g v2
  have lr : (List.replicate 60 (P.tup [.int 0, .int 0, .int 1, .int 0])).length ≤ 1000000 := by simp
  generalize List.replicate 60 (P.tup [.int 0, .int 0, .int 1, .int 0]) = RP at *
  simp -implicitDefEqProofs [runF_e, l0, l1, q1, q2, g, cl, v1, v2, mu, lr, nlW, nlP]
theorem bE_ok (a0 a2 a3 a4 a5 a6 a7 a8 a9 : Option W) (st : List Cell) : Yes (YZ.runR (bE (sg a0 a2 a3 a4 a5 a6 a7 a8 a9) st)) := by
  have f := full_ok
  have m : ∀ st, makeS 13 3 1 sm_Rules_init [.p (.tup [.int 7, .int 7, .int 7, .int 7])] st = .ok (.p (ruO (7, 7, 7, 7) [])) st := fun st => rules_make (t := (7, 7, 7, 7)) (R := []) ⟨⟨by decide, by decide⟩, ⟨by decide, by decide⟩, ⟨by decide, by decide⟩, ⟨by decide, by decide⟩⟩ (fun q hq => by simp at hq) (by simp) st
  have g := fun st => rules_get (7, 7, 7, 7) (R := []) (by simp) st
  rw [show ([] : List Ru).map ruP = [] from rfl] at g
  have cl := cls13 (7, 7, 7, 7) []
  have v : ∀ st, vEqB false (.p (.lst [])) (.p (.lst [])) st = .ok (.p (.bl true)) st := fun st => by
    rw [vEqB_data (by decide +kernel) (by decide +kernel)]; rfl
  generalize ruO (7, 7, 7, 7) [] = O at *
  simp -implicitDefEqProofs [bE, f, mMakeS_e, m, g, cl, v]
  exact ⟨_, rfl⟩
theorem then_nxV (σ : Sg) (st : List Cell) (b : SMm) : (SR.ok .nx σ st).then b = b σ st := rfl
theorem plain (ns : List Int) (h : ns.length ≤ 63) : ∃ st, sm_law [.p (.scr ns)] [] = .ok (.p (.bl true)) st := by
  show Yes (sm_law [.p (.scr ns)] [])
  rw [law_eq]
  obtain ⟨c0, e0, hc0⟩ := bag_make ns
  conv => arg 1; simp -implicitDefEqProofs [sm_law2, runF_e, e0, -forL_cons]
  refine forL_rule (fun r => Yes (YZ.runR (r.then bE))) (fun i => InvO (some (.p (.scr ns)))) ⟨c0, [], _, _, _, _, _, _, _, _, hc0, rfl, rfl⟩ ?_ ?_
  · rintro i w0 σ st _ ⟨c, rest, a2, a3, a4, a5, a6, a7, a8, a9, hc, rfl, rfl⟩
    obtain ⟨_, c1, e1, hc1, t, rfl, hg⟩ := starts_bg.call0 hc rest
    obtain ⟨_, c2, e2, hc2, R, rfl, lR, hR⟩ := law_rules_bg.call0 hc1 rest
    have pg := fun st => law_program_ok hg hR lR st
    have t2 := fun a6 => s2_ok (t := t) lR c2 rest (some (.p (.scr ns))) (some w0) (some (.p (ruP t))) (some (.p (.lst (R.map ruP)))) a6 a7 a8 a9
    have t3 := fun st => s3_ok (t := t) lR (some (.p (.scr ns))) (some w0) a6 a7 a8 a9 st
    have t4 := fun st => s4_ok hg hR lR (some (.p (.scr ns))) (some w0) a6 a7 a8 a9 st
    have t5 := fun st => s5_ok hg hR lR (some (.p (.scr ns))) (some w0) a6 a7 a8 a9 st
    have t6 := s6_ok (fun r => Yes (YZ.runR (r.then bE))) hg hc2 (rest ++ [.lst []]) (some (.p (.scr ns))) (some w0) (some (.p (.lst (R.map ruP)))) (some (.p (ruO t R))) a6 a7 a8 a9
    generalize ruO t R = O at *
    generalize R.map ruP = RP at *
    generalize ruP t = T at *
    conv => arg 3; simp -implicitDefEqProofs [e1, e2, pg, t2, t3, t4, t5]
    exact t6
  · rintro σ st ⟨c, rest, a2, a3, a4, a5, a6, a7, a8, a9, hc, rfl, rfl⟩
    rw [then_nxV]
    exact bE_ok _ _ _ _ _ _ _ _ _ _
end K53
namespace K53
open PySem PySem.Spec PyProof.Rows L2 Y YZ YS
/-- what the head says -/
structure Fcts (P : Program) (K : PySem.W.Frag) (w : World) (mg : Str → Option Value) : Prop where
  g__law_bag : mg "_law_bag" = some (.ref (He.ga K "_law_bag"))
  g__law_pull : mg "_law_pull" = some (.ref (He.ga K "_law_pull"))
  g__law_rules : mg "_law_rules" = some (.ref (He.ga K "_law_rules"))
  g__law_starts : mg "_law_starts" = some (.ref (He.ga K "_law_starts"))
  g_is_number : mg "is_number" = some (.ref (He.ga K "is_number"))
  g_is_within : mg "is_within" = some (.ref (He.ga K "is_within"))
  g_is_rule : mg "is_rule" = some (.ref (He.ga K "is_rule"))
  g__law_program : mg "_law_program" = some (.ref (He.ga K "_law_program"))
  g__law_same : mg "_law_same" = some (.ref (He.ga K "_law_same"))
  g__law_of : mg "_law_of" = some (.ref (He.ga K "_law_of"))
  g__law_sixty_one : mg "_law_sixty_one" = some (.ref (He.ga K "_law_sixty_one"))
  g__law_sixty : mg "_law_sixty" = some (.ref (He.ga K "_law_sixty"))
  g__law_full_rules : mg "_law_full_rules" = some (.ref (He.ga K "_law_full_rules"))
  g_law : mg "law" = some (.ref (He.ga K "law"))
  g__law_try : mg "_law_try" = some (.ref (He.ga K "_law_try"))
  g__law_field : mg "_law_field" = some (.ref (He.ga K "_law_field"))
  g_Rules : mg "Rules" = some (.ref (He.ga K "Rules"))
  g_InvalidRules : mg "InvalidRules" = some (.ref (He.ga K "InvalidRules"))
  g_Missing : mg "Missing" = some (.ref (He.ga K "Missing"))
  g_NothingLeft : mg "NothingLeft" = some (.ref (He.ga K "NothingLeft"))
  g_SayError : mg "SayError" = some (.ref (He.ga K "SayError"))
  b_all : mg "all" = none
  b_bool : mg "bool" = none
  b_enumerate : mg "enumerate" = none
  b_int : mg "int" = none
  b_isinstance : mg "isinstance" = none
  b_len : mg "len" = none
  b_list : mg "list" = none
  b_range : mg "range" = none
  b_repr : mg "repr" = none
  b_str : mg "str" = none
  b_super : mg "super" = none
  b_tuple : mg "tuple" = none
  b_zip : mg "zip" = none
  i_MOST_HEARD : ∃ t, mg "MOST_HEARD" = some (.int 200 t)
  i_MOST_RULES : ∃ t, mg "MOST_RULES" = some (.int 60 t)
  i_MOST_STATES : ∃ t, mg "MOST_STATES" = some (.int 8 t)
  x_InvalidRules_SayError : PySem.W.exmOne K (.ref (He.ga K "InvalidRules")) (.ref (He.ga K "SayError")) = some true
  c_Rules : L2.Cls K (He.ga K "Rules")
  mk_Rules : Mk K (He.ga K "Rules") (He.fAd K ("Rules", some "__init__"))
  m_Rules_eq : Meth K (He.ga K "Rules") "__eq__" (He.fAd K ("Rules", some "__eq__"))
  m_Rules_repr : Meth K (He.ga K "Rules") "__repr__" (He.fAd K ("Rules", some "__repr__"))
  m_Rules_rules : Meth K (He.ga K "Rules") "rules" (He.fAd K ("Rules", some "rules"))
  f_Rules_first : ∀ {fr : List (Str × List (Str × Addr))}, FldAt K (cl K fr) "first" 13 0
  f_Rules_rows : ∀ {fr : List (Str × List (Str × Addr))}, FldAt K (cl K fr) "rows" 13 1
  f_Rules_same : ∀ {fr : List (Str × List (Str × Addr))}, FldAt K (cl K fr) "same" 13 2
  e_InvalidRules : excB K "InvalidRules" "/claim/cut.py" (some "index") = true
  de_InvalidRules : fnE K (He.ma K (He.ga K "InvalidRules") "__init__") = dE_InvalidRules.val
  dd_InvalidRules : dE_InvalidRules.okB K = true
  p_Rules_starts : PropOf K (He.ga K "Rules") "starts" (propGet K (He.ga K "Rules") "starts").1 (propGet K (He.ga K "Rules") "starts").2
  d_Rules_starts : ∃ fd, FunD K "starts" "Rules.starts" (defArgs s_Rules_starts) (defBody s_Rules_starts) (defScope s_Rules_starts) [] [] ((propGet K (He.ga K "Rules") "starts").2) fd
  iso_Rules : isoB K (He.ga K "Rules") = true
  ins_Rules : insB K (He.ga K "Rules") = true
  nc_Rules : NeC K (He.ga K "Rules")
  ci_Rules_STATES : CIntC K (He.ga K "Rules") "STATES" 8
  net : (He.cT K ("law", none)).2 ≠ (He.cT K ("_law_full_rules", none)).2
  pf : FileOf P "/claim/cut.py"
  d_law_bag : ∃ fd, FunD K "_law_bag" "_law_bag" (defArgs s_law_bag) (defBody s_law_bag) (defScope s_law_bag) [] [] (He.fAd K ("_law_bag", none)) fd
  d_law_pull : ∃ fd, FunD K "_law_pull" "_law_pull" (defArgs s_law_pull) (defBody s_law_pull) (defScope s_law_pull) [] [] (He.fAd K ("_law_pull", none)) fd
  d_law_rules : ∃ fd, FunD K "_law_rules" "_law_rules" (defArgs s_law_rules) (defBody s_law_rules) (defScope s_law_rules) [] [] (He.fAd K ("_law_rules", none)) fd
  d_law_starts : ∃ fd, FunD K "_law_starts" "_law_starts" (defArgs s_law_starts) (defBody s_law_starts) (defScope s_law_starts) [] [] (He.fAd K ("_law_starts", none)) fd
  d_is_number : ∃ fd, FunD K "is_number" "is_number" (defArgs s_is_number) (defBody s_is_number) (defScope s_is_number) [] [] (He.fAd K ("is_number", none)) fd
  d_is_within : ∃ fd, FunD K "is_within" "is_within" (defArgs s_is_within) (defBody s_is_within) (defScope s_is_within) [] [] (He.fAd K ("is_within", none)) fd
  d_is_rule : ∃ fd, FunD K "is_rule" "is_rule" (defArgs s_is_rule) (defBody s_is_rule) (defScope s_is_rule) [] [] (He.fAd K ("is_rule", none)) fd
  d_Rules_init : ∃ fd, FunD K "__init__" "Rules.__init__" (defArgs s_Rules_init) (defBody s_Rules_init) (defScope s_Rules_init) [] [] (He.fAd K ("Rules", some "__init__")) fd
  d_law_program : ∃ fd, FunD K "_law_program" "_law_program" (defArgs s_law_program) (defBody s_law_program) (defScope s_law_program) [] [] (He.fAd K ("_law_program", none)) fd
  d_Rules_rules : ∃ fd, FunD K "rules" "Rules.rules" (defArgs s_Rules_rules) (defBody s_Rules_rules) (defScope s_Rules_rules) [] [] (He.fAd K ("Rules", some "rules")) fd
  d_law_same : ∃ fd, FunD K "_law_same" "_law_same" (defArgs s_law_same) (defBody s_law_same) (defScope s_law_same) [] [] (He.fAd K ("_law_same", none)) fd
  d_Rules_repr : ∃ fd, FunD K "__repr__" "Rules.__repr__" (defArgs s_Rules_repr) (defBody s_Rules_repr) (defScope s_Rules_repr) [] [] (He.fAd K ("Rules", some "__repr__")) fd
  d_Rules_eq : ∃ fd, FunD K "__eq__" "Rules.__eq__" (defArgs s_Rules_eq) (defBody s_Rules_eq) (defScope s_Rules_eq) [] [] (He.fAd K ("Rules", some "__eq__")) fd
  d_law_of : ∃ fd, FunD K "_law_of" "_law_of" (defArgs s_law_of) (defBody s_law_of) (defScope s_law_of) [] [] (He.fAd K ("_law_of", none)) fd
  d_law_sixty_one : ∃ fd, FunD K "_law_sixty_one" "_law_sixty_one" (defArgs s_law_sixty_one) (defBody s_law_sixty_one) (defScope s_law_sixty_one) [] [] (He.fAd K ("_law_sixty_one", none)) fd
  d_law_sixty : ∃ fd, FunD K "_law_sixty" "_law_sixty" (defArgs s_law_sixty) (defBody s_law_sixty) (defScope s_law_sixty) [] [] (He.fAd K ("_law_sixty", none)) fd
  d_law_full_rules : ∃ fd, FunD K "_law_full_rules" "_law_full_rules" (defArgs s_law_full_rules) (defBody s_law_full_rules) (defScope s_law_full_rules) [] [] (He.fAd K ("_law_full_rules", none)) fd
  d_law_try : ∃ fd, FunD K "_law_try" "_law_try" (defArgs s_law_try) (defBody s_law_try) (defScope s_law_try) [] [] (He.fAd K ("_law_try", none)) fd
  d_law_field : ∃ fd, FunD K "_law_field" "_law_field" (defArgs s_law_field) (defBody s_law_field) (defScope s_law_field) [] [] (He.fAd K ("_law_field", none)) fd
section
variable {P : Program} {w : World} {K : PySem.W.Frag} {mg : Str → Option Value} {base : Heap} {fr : List (Str × List (Str × Addr))}
theorem ex_InvalidRules (x : Fcts P K w mg) : Exc1 P w K mg base (cl K fr) 1 34 (He.ga K "InvalidRules") "InvalidRules" "index" "index" := exc1_of x.pf x.e_InvalidRules x.b_super rfl x.dd_InvalidRules x.de_InvalidRules ⟨_, rfl, rfl⟩ ⟨rfl, rfl, rfl, by decide +kernel, by decide +kernel, by decide +kernel, by decide +kernel, rfl, rfl⟩ (fun f cda cc => ⟨_, fun L => ⟨rfl, rfl, rfl⟩⟩) (by decide +kernel) (by decide +kernel) (fun _ _ _ _ _ _ _ us hl => match us, hl with | [_, _], _ => rfl) (fun _ => rfl) (fun _ => rfl)
theorem tryok (x : Fcts P K w mg) : ∀ q ∈ ([(34, "InvalidRules", some "index")] : List (Nat × Str × Option Str)), TryC K (cl K fr) (He.ga K "SayError") (He.ga K "Missing") (He.ga K "NothingLeft") q.1 q.2.1 q.2.2 := by
  intro q hq
  simp only [List.mem_cons, List.not_mem_nil, or_false] at hq
  rcases hq with rfl
  · exact tryC_of x.e_InvalidRules rfl x.x_InvalidRules_SayError rfl
theorem lam_d (x : Fcts P K w mg) : LamD P w K mg base "_law_try" (He.ga K "_law_try") (He.ga K "SayError") (He.ga K "Missing") (He.ga K "NothingLeft") := by
  obtain ⟨fdt, Ft⟩ := x.d_law_try
  obtain ⟨fdf, Ff⟩ := x.d_law_field
  obtain ⟨oc, od, dV, kV, doc, pm, an, cdv, ct, osl, rfl, lk, hcd, _, _⟩ := id Ft.ex
  refine ⟨⟨oc, od, osl, _, _, _, dV, kV, doc, pm, cdv, ct, an, ["_law_ask", "_law_e"], "_law_ask", lk, hcd, Ft.bindsN (fun _ _ _ _ _ _ us hl => match us, hl with | [_], _ => rfl), ⟨rfl, rfl, rfl, by decide +kernel, rfl, by decide +kernel, by decide +kernel⟩, rfl, vis_ok rfl, by decide +kernel, by decide +kernel, fun X h1 h2 h3 h4 h5 hr q => ?_⟩, Ft.kp⟩
  subst h1 h2 h3 h4 h5
  exact try_gives rfl rfl (by decide +kernel) (fun _ => rfl) rfl rfl rfl rfl rfl x.g_SayError x.g_Missing x.g_NothingLeft x.g__law_field (by decide +kernel) (by decide +kernel) Ff (Nf := ["_law_e"]) ⟨rfl, rfl, rfl, by decide +kernel, rfl, by decide +kernel, by decide +kernel⟩ (Ff.bindsN (fun _ _ _ _ _ _ us hl => match us, hl with | [_], _ => rfl)) (fun _ => rfl) (fun a oe cls d hz hf cd A outer s H => (fb_in List.mem_cons_self hz hf rfl (vis_ok rfl) (by decide +kernel) (by decide +kernel) (fun _ _ => rfl) (.cons (.cons (.cons (.cons (.cons (.cons .nil)))))) (fb_in List.mem_cons_self hz hf rfl (vis_ok rfl) (by decide +kernel) (by decide +kernel) (fun _ _ => rfl) (.cons (.cons .nil)) (fb_in List.mem_cons_self hz hf rfl (vis_ok rfl) (by decide +kernel) (by decide +kernel) (fun _ _ => rfl) (.cons (.cons (.cons (.cons .nil)))) (fb_in List.mem_cons_self hz hf rfl (vis_ok rfl) (by decide +kernel) (by decide +kernel) (fun _ _ => rfl) (.cons (.cons .nil)) (fb_in List.mem_cons_self hz hf rfl (vis_ok rfl) (by decide +kernel) (by decide +kernel) (fun _ _ => rfl) (.cons (.cons (.cons .nil))) (fb_eq List.mem_cons_self hz hf rfl (vis_ok rfl) (by decide +kernel) (by decide +kernel) (fun _ _ => rfl) (fb_end List.mem_cons_self hz hf rfl (vis_ok rfl) (by decide +kernel) (by decide +kernel) (fun _ _ => rfl))))))))) hr
theorem sc_law_bag : FnScope ["_law_script", "_law_salt", "_law_cell"] ["_law_script"] (defScope s_law_bag) := ⟨rfl, rfl, rfl, by decide +kernel, rfl, by decide +kernel, by decide +kernel⟩
theorem ok_law_bag (x : Fcts P K w mg) : Fk P w K mg base (cl K fr) 1 (He.fAd K ("_law_bag", none)) ["_law_script"] sm_law_bag := Fk.of x.d_law_bag sc_law_bag (fun _ _ _ _ _ _ us hl => match us, hl with | [_], _ => rfl) fun cd A outer s H E g hr => (ss_cons (ss_set g (i := 1) rfl (loc_ok rfl) se_int rfl (.inl rfl))
    (ss_cons (ss_for PassesOwn.never g (si_of g (se_sl g (v (i := 0) rfl rfl rfl) so_none (so_some se_int))) (sg_name g (i := 2) rfl (loc_ok rfl) (.inl rfl)) (ss_one (ss_set g (i := 1) rfl (loc_ok rfl) (se_mod (se_callT call_intA vInt_ok rfl x.b_int (by decide +kernel) (sa_cons (se_add g (se_add g (se_mulI (v (i := 1) rfl rfl rfl) se_int) (se_mod (se_callT call_intA vInt_ok rfl x.b_int (by decide +kernel) (sa_cons (v (i := 2) rfl rfl rfl) sa_nil rfl) (by decide +kernel) rfl rfl rfl) se_int)) se_int) sa_nil rfl) (by decide +kernel) rfl rfl rfl) se_int) rfl (.inl rfl))) (fun _ => rfl))
    (ss_one (ss_ret (se_lstC (sa_cons (se_callT call_list_of vLstOf_ok rfl x.b_list (by decide +kernel) (sa_cons (se_sl g (v (i := 0) rfl rfl rfl) so_none (so_some se_int)) sa_nil rfl) (by decide +kernel) rfl rfl rfl) (sa_cons se_int (sa_cons se_int (sa_cons (v (i := 1) rfl rfl rfl) sa_nil rfl) rfl) rfl) rfl))))))
theorem sc_law_pull : FnScope ["_law_bag_here", "_law_amount", "_law_seed", "_law_cell", "_law_got"] ["_law_bag_here", "_law_amount"] (defScope s_law_pull) := ⟨rfl, rfl, rfl, by decide +kernel, rfl, by decide +kernel, by decide +kernel⟩
theorem ok_law_pull (x : Fcts P K w mg) : Fk P w K mg base (cl K fr) 1 (He.fAd K ("_law_pull", none)) ["_law_bag_here", "_law_amount"] sm_law_pull := Fk.of x.d_law_pull sc_law_pull (fun _ _ _ _ _ _ us hl => match us, hl with | [_, _], _ => rfl) fun cd A outer s H E g hr => (ss_cons (ss_if (sw_pt (sw_and (st_eq g (ixK g (fun _ _ => rfl) (v (i := 0) rfl rfl rfl) se_int) se_int rfl) (sw_and1 (st_lt (ixK g (fun _ _ => rfl) (v (i := 0) rfl rfl rfl) se_int) (se_callB call_lenA vLen_ok rfl x.b_len (by decide +kernel) (sa_cons (ixK g (fun _ _ => rfl) (v (i := 0) rfl rfl rfl) se_int) sa_nil rfl) (by decide +kernel) rfl rfl rfl) rfl)))) (ss_cons (ss_set g (i := 3) rfl (loc_ok rfl) (ixK g (fun _ _ => rfl) (ixK g (fun _ _ => rfl) (v (i := 0) rfl rfl rfl) se_int) (ixK g (fun _ _ => rfl) (v (i := 0) rfl rfl rfl) se_int)) rfl (.inl rfl))
    (ss_cons (ss_setIx g (v (i := 0) rfl rfl rfl) se_int (se_add g (ixK g (fun _ _ => rfl) (v (i := 0) rfl rfl rfl) se_int) se_int) (fun _ => rfl) rfl rfl rfl)
    (ss_one (ss_if (st_ge (v (i := 3) rfl rfl rfl) (se_pow se_int se_int) rfl) (ss_one (ss_setIx g (v (i := 0) rfl rfl rfl) se_int (v (i := 3) rfl rfl rfl) (fun _ => rfl) rfl rfl rfl)) (ss_one (ss_setIx g (v (i := 0) rfl rfl rfl) se_int (se_mod (se_callT call_intA vInt_ok rfl x.b_int (by decide +kernel) (sa_cons (se_add g (se_add g (se_mulI (ixK g (fun _ _ => rfl) (v (i := 0) rfl rfl rfl) se_int) se_int) (se_mulI (se_mod (se_callT call_intA vInt_ok rfl x.b_int (by decide +kernel) (sa_cons (v (i := 3) rfl rfl rfl) sa_nil rfl) (by decide +kernel) rfl rfl rfl) se_int) se_int)) se_int) sa_nil rfl) (by decide +kernel) rfl rfl rfl) se_int) (fun _ => rfl) rfl rfl rfl)))))) ss_nil)
    (ss_cons (ss_if (st_gt (ixK g (fun _ _ => rfl) (v (i := 0) rfl rfl rfl) se_int) se_int rfl) (ss_cons (ss_set g (i := 4) rfl (loc_ok rfl) (se_mod (se_callT call_intA vInt_ok rfl x.b_int (by decide +kernel) (sa_cons (ixK g (fun _ _ => rfl) (v (i := 0) rfl rfl rfl) se_int) sa_nil rfl) (by decide +kernel) rfl rfl rfl) (v (i := 1) rfl rfl rfl)) rfl (.inl rfl))
    (ss_cons (ss_setIx g (v (i := 0) rfl rfl rfl) se_int (se_fdv (ixK g (fun _ _ => rfl) (v (i := 0) rfl rfl rfl) se_int) (v (i := 1) rfl rfl rfl)) (fun _ => rfl) rfl rfl rfl)
    (ss_one (ss_ret (v (i := 4) rfl rfl rfl))))) ss_nil)
    (ss_cons (ss_set g (i := 2) rfl (loc_ok rfl) (ixK g (fun _ _ => rfl) (v (i := 0) rfl rfl rfl) se_int) rfl (.inl rfl))
    (ss_cons (ss_setIx g (v (i := 0) rfl rfl rfl) se_int (se_mod (se_callT call_intA vInt_ok rfl x.b_int (by decide +kernel) (sa_cons (se_add g (se_add g (se_mulI (v (i := 2) rfl rfl rfl) (v (i := 2) rfl rfl rfl)) (se_mulI (v (i := 2) rfl rfl rfl) se_int)) se_int) sa_nil rfl) (by decide +kernel) rfl rfl rfl) se_int) (fun _ => rfl) rfl rfl rfl)
    (ss_one (ss_ret (se_mod (se_callT call_intA vInt_ok rfl x.b_int (by decide +kernel) (sa_cons (se_add g (se_fdv (ixK g (fun _ _ => rfl) (v (i := 0) rfl rfl rfl) se_int) se_int) (se_mulI (se_mod (se_callT call_intA vInt_ok rfl x.b_int (by decide +kernel) (sa_cons (ixK g (fun _ _ => rfl) (v (i := 0) rfl rfl rfl) se_int) sa_nil rfl) (by decide +kernel) rfl rfl rfl) se_int) se_int)) sa_nil rfl) (by decide +kernel) rfl rfl rfl) (v (i := 1) rfl rfl rfl))))))))
theorem sc_law_rules : FnScope ["_law_bag_here", "_law_many", "_law_k"] ["_law_bag_here"] (defScope s_law_rules) := ⟨rfl, rfl, rfl, by decide +kernel, rfl, by decide +kernel, by decide +kernel⟩
theorem ok_law_rules (x : Fcts P K w mg) : Fk P w K mg base (cl K fr) 2 (He.fAd K ("_law_rules", none)) ["_law_bag_here"] sm_law_rules := Fk.of x.d_law_rules sc_law_rules (fun _ _ _ _ _ _ us hl => match us, hl with | [_], _ => rfl) fun cd A outer s H E g hr => (ss_cons (ss_set g (i := 1) rfl (loc_ok rfl) (se_add g se_int (callK (ok_law_pull x) g (hr.mono (by decide)) rfl x.g__law_pull (sa_cons (v (i := 0) rfl rfl rfl) (sa_cons se_int sa_nil rfl) rfl) rfl rfl rfl)) rfl (.inl rfl))
    (ss_one (ss_ret (se_lc g finP_ok (own := [("_law_k", 2)]) (by kernel_rfl) rfl (si_rng1 rfl x.b_range (callK (ok_law_pull x) g (hr.mono (by decide)) rfl x.g__law_pull (sa_cons (v (i := 0) rfl rfl rfl) (sa_cons se_int sa_nil rfl) rfl) rfl rfl rfl) rfl) (by decide +kernel) (fun _ => (sg_name (GX.blk g) (i := 2) rfl (loc_ok rfl) (by first | exact .inl rfl | exact .inr rfl))) (fun _ => sts_nil) (fun _ => (se_tup (sa_cons (callK (ok_law_pull x) (GX.blk g) (hr.mono (by decide)) rfl x.g__law_pull (sa_cons (v (i := 0) rfl rfl rfl) (sa_cons (v (i := 1) rfl rfl rfl) sa_nil rfl) rfl) rfl rfl rfl) (sa_cons (callK (ok_law_pull x) (GX.blk g) (hr.mono (by decide)) rfl x.g__law_pull (sa_cons (v (i := 0) rfl rfl rfl) (sa_cons (v (i := 1) rfl rfl rfl) sa_nil rfl) rfl) rfl rfl rfl) (sa_cons (se_add (GX.blk g) se_int (callK (ok_law_pull x) (GX.blk g) (hr.mono (by decide)) rfl x.g__law_pull (sa_cons (v (i := 0) rfl rfl rfl) (sa_cons se_int sa_nil rfl) rfl) rfl rfl rfl)) (sa_cons (callK (ok_law_pull x) (GX.blk g) (hr.mono (by decide)) rfl x.g__law_pull (sa_cons (v (i := 0) rfl rfl rfl) (sa_cons (v (i := 1) rfl rfl rfl) sa_nil rfl) rfl) rfl rfl rfl) sa_nil rfl) rfl) rfl) rfl))) (fun _ => rfl)))))
theorem sc_law_starts : FnScope ["_law_bag_here", "_law_letter"] ["_law_bag_here"] (defScope s_law_starts) := ⟨rfl, rfl, rfl, by decide +kernel, rfl, by decide +kernel, by decide +kernel⟩
theorem ok_law_starts (x : Fcts P K w mg) : Fk P w K mg base (cl K fr) 2 (He.fAd K ("_law_starts", none)) ["_law_bag_here"] sm_law_starts := Fk.of x.d_law_starts sc_law_starts (fun _ _ _ _ _ _ us hl => match us, hl with | [_], _ => rfl) fun cd A outer s H E g hr => (ss_one (ss_ret (se_callT call_tuple_of vTupOf_ok rfl x.b_tuple (by decide +kernel) (sa_cons (se_lc g finP_ok (own := [("_law_letter", 1)]) (by kernel_rfl) rfl (si_of g se_str) (by decide +kernel) (fun _ => (sg_name (GX.blk g) (i := 1) rfl (loc_ok rfl) (by first | exact .inl rfl | exact .inr rfl))) (fun _ => sts_nil) (fun _ => (callK (ok_law_pull x) (GX.blk g) (hr.mono (by decide)) rfl x.g__law_pull (sa_cons (v (i := 0) rfl rfl rfl) (sa_cons se_int sa_nil rfl) rfl) rfl rfl rfl)) (fun _ => rfl)) sa_nil rfl) (by decide +kernel) rfl rfl rfl)))
theorem sc_is_number : FnScope ["value"] ["value"] (defScope s_is_number) := ⟨rfl, rfl, rfl, by decide +kernel, rfl, by decide +kernel, by decide +kernel⟩
theorem ok_is_number (x : Fcts P K w mg) : Fk P w K mg base (cl K fr) 1 (He.fAd K ("is_number", none)) ["value"] sm_is_number := Fk.of x.d_is_number sc_is_number (fun _ _ _ _ _ _ us hl => match us, hl with | [_], _ => rfl) fun cd A outer s H E g hr => (ss_one (ss_ret (se_and (se_isi g (by decide) rfl x.b_isinstance rfl x.b_int (by decide +kernel) (by decide +kernel) rfl (v (i := 0) rfl rfl rfl) rfl rfl rfl) (se_one (se_not (se_isi g (by decide) rfl x.b_isinstance rfl x.b_bool (by decide +kernel) (by decide +kernel) rfl (v (i := 0) rfl rfl rfl) rfl rfl rfl))))))
theorem sc_is_within : FnScope ["value", "least", "most"] ["value", "least", "most"] (defScope s_is_within) := ⟨rfl, rfl, rfl, by decide +kernel, rfl, by decide +kernel, by decide +kernel⟩
theorem ok_is_within (x : Fcts P K w mg) : Fk P w K mg base (cl K fr) 2 (He.fAd K ("is_within", none)) ["value", "least", "most"] sm_is_within := Fk.of x.d_is_within sc_is_within (fun _ _ _ _ _ _ us hl => match us, hl with | [_, _, _], _ => rfl) fun cd A outer s H E g hr => (ss_one (ss_ret (se_and (callK (ok_is_number x) g (hr.mono (by decide)) rfl x.g_is_number (sa_cons (v (i := 0) rfl rfl rfl) sa_nil rfl) rfl rfl rfl) (se_one (se_chain op_le op_le vLe_ok vLe_ok (v (i := 1) rfl rfl rfl) (v (i := 0) rfl rfl rfl) (v (i := 2) rfl rfl rfl) (by with_unfolding_all rfl))))))
theorem sc_is_rule : FnScope ["value", "own", "heard", "least", "later", "state"] ["value"] (defScope s_is_rule) := ⟨rfl, rfl, rfl, by decide +kernel, rfl, by decide +kernel, by decide +kernel⟩
theorem ok_is_rule (x : Fcts P K w mg) : Fk P w K mg base (cl K fr) 3 (He.fAd K ("is_rule", none)) ["value"] sm_is_rule := Fk.of x.d_is_rule sc_is_rule (fun _ _ _ _ _ _ us hl => match us, hl with | [_], _ => rfl) fun cd A outer s H E g hr => (ss_cons (ss_if (sw_pt (sw_or (st_not (st_tru g (se_isi g (by decide) rfl x.b_isinstance rfl x.b_tuple (by decide +kernel) (by decide +kernel) rfl (v (i := 0) rfl rfl rfl) rfl rfl rfl) (fun _ => rfl))) (sw_or1 (st_ne g (se_callB call_lenA vLen_ok rfl x.b_len (by decide +kernel) (sa_cons (v (i := 0) rfl rfl rfl) sa_nil rfl) (by decide +kernel) rfl rfl rfl) se_int rfl)))) (ss_one (ss_ret se_bl)) ss_nil)
    (ss_cons (ss_put (sg_tup g (sgs_cons (sg_name g (i := 1) rfl (loc_ok rfl) (.inl rfl)) (sgs_cons (sg_name g (i := 2) rfl (loc_ok rfl) (.inl rfl)) (sgs_cons (sg_name g (i := 3) rfl (loc_ok rfl) (.inl rfl)) (sgs_cons (sg_name g (i := 4) rfl (loc_ok rfl) (.inl rfl)) sgs_nil rfl) rfl) rfl) rfl) rfl rfl rfl) (v (i := 0) rfl rfl rfl) rfl rfl rfl)
    (ss_cons (ss_if (st_not (st_tru g (se_callB (call_allG g.hc) vAnyG_ok rfl x.b_all (by decide +kernel) (sa_cons (se_lc g finP_ok (own := [("state", 5)]) (by kernel_rfl) rfl (si_of g (se_tup (sa_cons (v (i := 1) rfl rfl rfl) (sa_cons (v (i := 2) rfl rfl rfl) (sa_cons (v (i := 4) rfl rfl rfl) sa_nil rfl) rfl) rfl))) (by decide +kernel) (fun _ => (sg_name (GX.blk g) (i := 5) rfl (loc_ok rfl) (by first | exact .inl rfl | exact .inr rfl))) (fun _ => sts_nil) (fun _ => (callK (ok_is_within x) (GX.blk g) (hr.mono (by decide)) rfl x.g_is_within (sa_cons (v (i := 5) rfl rfl rfl) (sa_cons se_int (sa_cons (se_sub (se_gint rfl x.i_MOST_STATES rfl) se_int) sa_nil rfl) rfl) rfl) rfl rfl rfl)) (fun _ => rfl)) sa_nil rfl) (by decide +kernel) rfl rfl rfl) (fun _ => rfl))) (ss_one (ss_ret se_bl)) ss_nil)
    (ss_one (ss_ret (callK (ok_is_within x) g (hr.mono (by decide)) rfl x.g_is_within (sa_cons (v (i := 3) rfl rfl rfl) (sa_cons se_int (sa_cons (se_gint rfl x.i_MOST_HEARD rfl) sa_nil rfl) rfl) rfl) rfl rfl rfl))))))
-- raises ['InvalidRules']
theorem sc_Rules_init : FnScope ["self", "starts", "rules", "index", "rule", "state"] ["self", "starts", "rules"] (defScope s_Rules_init) := ⟨rfl, rfl, rfl, by decide +kernel, rfl, by decide +kernel, by decide +kernel⟩
theorem ok_Rules_init (x : Fcts P K w mg) : Sk P w K mg base (cl K fr) 4 (He.fAd K ("Rules", some "__init__")) 2 sm_Rules_init := Sk.of (ps := ["self", "starts"]) x.d_Rules_init sc_Rules_init (fun kV doc pm an cdv ct => bs2 (fun _ _ => rfl) (fun _ _ _ _ => rfl)) fun cd A outer s H E g tk hr => (ss_cons (ss_if (sw_pt (sw_or (st_not (st_tru g (se_isi g (by decide) rfl x.b_isinstance rfl x.b_tuple (by decide +kernel) (by decide +kernel) rfl (v (i := 1) rfl rfl rfl) rfl rfl rfl) (fun _ => rfl))) (sw_or1 (st_ne g (se_callB call_lenA vLen_ok rfl x.b_len (by decide +kernel) (sa_cons (v (i := 1) rfl rfl rfl) sa_nil rfl) (by decide +kernel) rfl rfl rfl) se_int rfl)))) (ss_one (ss_raise1 (ex_InvalidRules x) g tk (hr.mono (by decide)) rfl x.g_InvalidRules (se_neg se_int) (by decide +kernel) rfl rfl)) ss_nil)
    (ss_cons (ss_if (st_not (st_tru g (se_callB (call_allG g.hc) vAnyG_ok rfl x.b_all (by decide +kernel) (sa_cons (se_lc g finP_ok (own := [("state", 5)]) (by kernel_rfl) rfl (si_of g (v (i := 1) rfl rfl rfl)) (by decide +kernel) (fun _ => (sg_name (GX.blk g) (i := 5) rfl (loc_ok rfl) (by first | exact .inl rfl | exact .inr rfl))) (fun _ => sts_nil) (fun _ => (callK (ok_is_within x) (GX.blk g) (hr.mono (by decide)) rfl x.g_is_within (sa_cons (v (i := 5) rfl rfl rfl) (sa_cons se_int (sa_cons (se_sub (se_gint rfl x.i_MOST_STATES rfl) se_int) sa_nil rfl) rfl) rfl) rfl rfl rfl)) (fun _ => rfl)) sa_nil rfl) (by decide +kernel) rfl rfl rfl) (fun _ => rfl))) (ss_one (ss_raise1 (ex_InvalidRules x) g tk (hr.mono (by decide)) rfl x.g_InvalidRules (se_neg se_int) (by decide +kernel) rfl rfl)) ss_nil)
    (ss_cons (ss_for (passes_of rfl) g (si_enmA g rfl x.b_enumerate (v (i := 2) rfl rfl rfl) rfl rfl) (sg_tup g (sgs_cons (sg_name g (i := 3) rfl (loc_ok rfl) (.inl rfl)) (sgs_cons (sg_name g (i := 4) rfl (loc_ok rfl) (.inl rfl)) sgs_nil rfl) rfl) rfl rfl rfl) (ss_one (ss_if (sw_pt (sw_or (st_ge (v (i := 3) rfl rfl rfl) (se_gint rfl x.i_MOST_RULES rfl) rfl) (sw_or1 (st_not (st_tru g (callK (ok_is_rule x) g (hr.mono (by decide)) rfl x.g_is_rule (sa_cons (v (i := 4) rfl rfl rfl) sa_nil rfl) rfl rfl rfl) (fun _ => rfl)))))) (ss_one (ss_raise1 (ex_InvalidRules x) g tk (hr.mono (by decide)) rfl x.g_InvalidRules (v (i := 3) rfl rfl rfl) (by decide +kernel) rfl rfl)) ss_nil)) (fun _ => rfl))
    (ss_cons (ss_setF g (fld1 x.f_Rules_first) clsm (v (i := 0) rfl rfl rfl) (v (i := 1) rfl rfl rfl) rfl)
    (ss_cons (ss_setF g (fld1 x.f_Rules_rows) clsm (v (i := 0) rfl rfl rfl) (v (i := 2) rfl rfl rfl) rfl)
    (ss_one (ss_setF g (fld1 x.f_Rules_same) clsm (v (i := 0) rfl rfl rfl) (se_tup (sa_cons (v (i := 1) rfl rfl rfl) (sa_cons (v (i := 2) rfl rfl rfl) sa_nil rfl) rfl)) rfl)))))))
-- raises ['InvalidRules']
theorem sc_law_program : FnScope ["_law_starts_here", "_law_rules_here", "_law_at", "_law_one", "_law_two", "_law_three", "_law_four"] ["_law_starts_here", "_law_rules_here"] (defScope s_law_program) := ⟨rfl, rfl, rfl, by decide +kernel, rfl, by decide +kernel, by decide +kernel⟩
theorem ok_law_program (x : Fcts P K w mg) : Xk P w K mg base (cl K fr) 6 (He.fAd K ("_law_program", none)) ["_law_starts_here", "_law_rules_here"] sm_law_program := Xk.of x.d_law_program sc_law_program (fun _ _ _ _ _ _ us hl => match us, hl with | [_, _], _ => rfl) fun cd A outer s H E g tk hr => (ss_cons (ss_set g (i := 2) rfl (loc_ok rfl) (se_callB call_lenA vLen_ok rfl x.b_len (by decide +kernel) (sa_cons (v (i := 1) rfl rfl rfl) sa_nil rfl) (by decide +kernel) rfl rfl rfl) rfl (.inl rfl))
    (ss_cons (ss_if (st_eq g (v (i := 2) rfl rfl rfl) se_int rfl) (ss_one (ss_ret (makeSK (ok_Rules_init x) g tk WI.e (hr.mono (by decide)) rfl rfl x.mk_Rules rfl x.g_Rules (sa_cons (v (i := 0) rfl rfl rfl) sa_nil rfl) rfl rfl rfl))) ss_nil)
    (ss_cons (ss_if (st_eq g (v (i := 2) rfl rfl rfl) se_int rfl) (ss_one (ss_ret (makeSK (ok_Rules_init x) g tk WI.e (hr.mono (by decide)) rfl rfl x.mk_Rules rfl x.g_Rules (sa_cons (v (i := 0) rfl rfl rfl) (sa_cons (ixK g (fun _ _ => rfl) (v (i := 1) rfl rfl rfl) se_int) sa_nil rfl) rfl) rfl rfl rfl))) ss_nil)
    (ss_cons (ss_if (st_eq g (v (i := 2) rfl rfl rfl) se_int rfl) (ss_one (ss_ret (makeSK (ok_Rules_init x) g tk WI.e (hr.mono (by decide)) rfl rfl x.mk_Rules rfl x.g_Rules (sa_cons (v (i := 0) rfl rfl rfl) (sa_cons (ixK g (fun _ _ => rfl) (v (i := 1) rfl rfl rfl) se_int) (sa_cons (ixK g (fun _ _ => rfl) (v (i := 1) rfl rfl rfl) se_int) sa_nil rfl) rfl) rfl) rfl rfl rfl))) ss_nil)
    (ss_cons (ss_if (st_eq g (v (i := 2) rfl rfl rfl) se_int rfl) (ss_one (ss_ret (makeSK (ok_Rules_init x) g tk WI.e (hr.mono (by decide)) rfl rfl x.mk_Rules rfl x.g_Rules (sa_cons (v (i := 0) rfl rfl rfl) (sa_cons (ixK g (fun _ _ => rfl) (v (i := 1) rfl rfl rfl) se_int) (sa_cons (ixK g (fun _ _ => rfl) (v (i := 1) rfl rfl rfl) se_int) (sa_cons (ixK g (fun _ _ => rfl) (v (i := 1) rfl rfl rfl) se_int) sa_nil rfl) rfl) rfl) rfl) rfl rfl rfl))) ss_nil)
    (ss_cons (ss_putL g (sgs_cons (sg_name g (i := 3) rfl (loc_ok rfl) (.inl rfl)) (sgs_cons (sg_name g (i := 4) rfl (loc_ok rfl) (.inl rfl)) (sgs_cons (sg_name g (i := 5) rfl (loc_ok rfl) (.inl rfl)) (sgs_cons (sg_name g (i := 6) rfl (loc_ok rfl) (.inl rfl)) sgs_nil rfl) rfl) rfl) rfl) rfl rfl rfl (se_sl g (v (i := 1) rfl rfl rfl) so_none (so_some se_int)) rfl rfl rfl)
    (ss_cons (ss_if (st_eq g (v (i := 2) rfl rfl rfl) se_int rfl) (ss_one (ss_ret (makeSK (ok_Rules_init x) g tk WI.e (hr.mono (by decide)) rfl rfl x.mk_Rules rfl x.g_Rules (sa_cons (v (i := 0) rfl rfl rfl) (sa_cons (v (i := 3) rfl rfl rfl) (sa_cons (v (i := 4) rfl rfl rfl) (sa_cons (v (i := 5) rfl rfl rfl) (sa_cons (v (i := 6) rfl rfl rfl) sa_nil rfl) rfl) rfl) rfl) rfl) rfl rfl rfl))) ss_nil)
    (ss_cons (ss_if (st_eq g (v (i := 2) rfl rfl rfl) se_int rfl) (ss_one (ss_ret (makeSK (ok_Rules_init x) g tk WI.e (hr.mono (by decide)) rfl rfl x.mk_Rules rfl x.g_Rules (sa_cons (v (i := 0) rfl rfl rfl) (sa_cons (v (i := 3) rfl rfl rfl) (sa_cons (v (i := 4) rfl rfl rfl) (sa_cons (v (i := 5) rfl rfl rfl) (sa_cons (v (i := 6) rfl rfl rfl) (sa_cons (ixK g (fun _ _ => rfl) (v (i := 1) rfl rfl rfl) se_int) sa_nil rfl) rfl) rfl) rfl) rfl) rfl) rfl rfl rfl))) ss_nil)
    (ss_cons (ss_if (st_eq g (v (i := 2) rfl rfl rfl) se_int rfl) (ss_one (ss_ret (makeSK (ok_Rules_init x) g tk WI.e (hr.mono (by decide)) rfl rfl x.mk_Rules rfl x.g_Rules (sa_cons (v (i := 0) rfl rfl rfl) (sa_cons (v (i := 3) rfl rfl rfl) (sa_cons (v (i := 4) rfl rfl rfl) (sa_cons (v (i := 5) rfl rfl rfl) (sa_cons (v (i := 6) rfl rfl rfl) (sa_cons (ixK g (fun _ _ => rfl) (v (i := 1) rfl rfl rfl) se_int) (sa_cons (ixK g (fun _ _ => rfl) (v (i := 1) rfl rfl rfl) se_int) sa_nil rfl) rfl) rfl) rfl) rfl) rfl) rfl) rfl rfl rfl))) ss_nil)
    (ss_cons (ss_if (st_eq g (v (i := 2) rfl rfl rfl) se_int rfl) (ss_one (ss_ret (makeSK (ok_Rules_init x) g tk WI.e (hr.mono (by decide)) rfl rfl x.mk_Rules rfl x.g_Rules (sa_cons (v (i := 0) rfl rfl rfl) (sa_cons (v (i := 3) rfl rfl rfl) (sa_cons (v (i := 4) rfl rfl rfl) (sa_cons (v (i := 5) rfl rfl rfl) (sa_cons (v (i := 6) rfl rfl rfl) (sa_cons (ixK g (fun _ _ => rfl) (v (i := 1) rfl rfl rfl) se_int) (sa_cons (ixK g (fun _ _ => rfl) (v (i := 1) rfl rfl rfl) se_int) (sa_cons (ixK g (fun _ _ => rfl) (v (i := 1) rfl rfl rfl) se_int) sa_nil rfl) rfl) rfl) rfl) rfl) rfl) rfl) rfl) rfl rfl rfl))) ss_nil)
    (ss_one (ss_ret (makeSK (ok_Rules_init x) g tk WI.e (hr.mono (by decide)) rfl rfl x.mk_Rules rfl x.g_Rules (sa_cons (v (i := 0) rfl rfl rfl) (sa_cons (v (i := 3) rfl rfl rfl) (sa_cons (v (i := 4) rfl rfl rfl) (sa_cons (v (i := 5) rfl rfl rfl) (sa_cons (v (i := 6) rfl rfl rfl) (sa_cons (ixK g (fun _ _ => rfl) (v (i := 1) rfl rfl rfl) se_int) (sa_cons (ixK g (fun _ _ => rfl) (v (i := 1) rfl rfl rfl) se_int) (sa_cons (ixK g (fun _ _ => rfl) (v (i := 1) rfl rfl rfl) se_int) (sa_cons (ixK g (fun _ _ => rfl) (v (i := 1) rfl rfl rfl) se_int) sa_nil rfl) rfl) rfl) rfl) rfl) rfl) rfl) rfl) rfl) rfl rfl rfl)))))))))))))
theorem sc_Rules_rules_c : FnScope ["self"] ["self"] (defScope s_Rules_rules) := ⟨rfl, rfl, rfl, by decide +kernel, rfl, by decide +kernel, by decide +kernel⟩
theorem ok_Rules_rules_c (x : Fcts P K w mg) : Fk P w K mg base (cl K fr) 1 (He.fAd K ("Rules", some "rules")) ["self"] sm_Rules_rules_c := Fk.of x.d_Rules_rules sc_Rules_rules_c (fun _ _ _ _ _ _ us hl => match us, hl with | [_], _ => rfl) fun cd A outer s H E g hr => (ss_one (ss_ret (se_callT call_list_of vLstOfC_ok rfl x.b_list (by decide +kernel) (sa_cons (se_fld g (fld1 x.f_Rules_rows) (v (i := 0) rfl rfl rfl) rfl) sa_nil rfl) (by decide +kernel) rfl rfl rfl)))
theorem sc_law_same : FnScope ["_law_found", "_law_due", "_law_one", "_law_other"] ["_law_found", "_law_due"] (defScope s_law_same) := ⟨rfl, rfl, rfl, by decide +kernel, rfl, by decide +kernel, by decide +kernel⟩
theorem ok_law_same (x : Fcts P K w mg) : ∀ n : Nat, Fk P w K mg base (cl K fr) (0 + n) (He.fAd K ("_law_same", none)) ["_law_found", "_law_due"] (sm_law_same n)
  | 0 => (Fk.zero (N := []) (fun _ _ => rfl) x.d_law_same (fun _ _ _ _ _ _ us hl => match us, hl with | [_, _], _ => rfl)).mono (Nat.zero_le _)
  | n + 1 => (fun (ih : Fk P w K mg base (cl K fr) (0 + n) (He.fAd K ("_law_same", none)) ["_law_found", "_law_due"] (sm_law_same n)) => Fk.of x.d_law_same sc_law_same (fun _ _ _ _ _ _ us hl => match us, hl with | [_, _], _ => rfl) fun cd A outer s H E g hr => (ss_cons (ss_if (sw_pt (sw_or (st_tru g (se_isi g (by decide) rfl x.b_isinstance rfl x.b_list (by decide +kernel) (by decide +kernel) rfl (v (i := 1) rfl rfl rfl) rfl rfl rfl) (fun _ => rfl)) (sw_or1 (st_tru g (se_isi g (by decide) rfl x.b_isinstance rfl x.b_tuple (by decide +kernel) (by decide +kernel) rfl (v (i := 1) rfl rfl rfl) rfl rfl rfl) (fun _ => rfl))))) (ss_cons (ss_if (sw_pt (sw_or (st_ne g (se_isi g (by decide) rfl x.b_isinstance rfl x.b_list (by decide +kernel) (by decide +kernel) rfl (v (i := 0) rfl rfl rfl) rfl rfl rfl) (se_isi g (by decide) rfl x.b_isinstance rfl x.b_list (by decide +kernel) (by decide +kernel) rfl (v (i := 1) rfl rfl rfl) rfl rfl rfl) rfl) (sw_or1 (st_ne g (se_isi g (by decide) rfl x.b_isinstance rfl x.b_tuple (by decide +kernel) (by decide +kernel) rfl (v (i := 0) rfl rfl rfl) rfl rfl rfl) (se_isi g (by decide) rfl x.b_isinstance rfl x.b_tuple (by decide +kernel) (by decide +kernel) rfl (v (i := 1) rfl rfl rfl) rfl rfl rfl) rfl)))) (ss_one (ss_ret se_bl)) ss_nil)
    (ss_one (ss_ret (se_and (se_eq g (se_callB call_lenA vLen_ok rfl x.b_len (by decide +kernel) (sa_cons (v (i := 0) rfl rfl rfl) sa_nil rfl) (by decide +kernel) rfl rfl rfl) (se_callB call_lenA vLen_ok rfl x.b_len (by decide +kernel) (sa_cons (v (i := 1) rfl rfl rfl) sa_nil rfl) (by decide +kernel) rfl rfl rfl) rfl) (se_one (se_callB (call_allG g.hc) vAnyG_ok rfl x.b_all (by decide +kernel) (sa_cons (se_lc g finP_ok (own := [("_law_one", 2), ("_law_other", 3)]) (by kernel_rfl) rfl (si_zipA g rfl x.b_zip (v (i := 0) rfl rfl rfl) (v (i := 1) rfl rfl rfl) rfl rfl rfl) (by decide +kernel) (fun _ => (sg_tup (GX.blk g) (sgs_cons (sg_name (GX.blk g) (i := 2) rfl (loc_ok rfl) (by first | exact .inl rfl | exact .inr rfl)) (sgs_cons (sg_name (GX.blk g) (i := 3) rfl (loc_ok rfl) (by first | exact .inl rfl | exact .inr rfl)) sgs_nil rfl) rfl) rfl rfl rfl)) (fun _ => sts_nil) (fun _ => (callK ih (GX.blk g) hr rfl x.g__law_same (sa_cons (v (i := 2) rfl rfl rfl) (sa_cons (v (i := 3) rfl rfl rfl) sa_nil rfl) rfl) rfl rfl rfl)) (fun _ => rfl)) sa_nil rfl) (by decide +kernel) rfl rfl rfl)))))) ss_nil)
    (ss_cons (ss_if (sw_pt (sw_or (st_is (v (i := 1) rfl rfl rfl) se_non rfl) (sw_or1 (st_is (v (i := 0) rfl rfl rfl) se_non rfl)))) (ss_one (ss_ret (se_and (se_is (v (i := 1) rfl rfl rfl) se_non rfl) (se_one (se_is (v (i := 0) rfl rfl rfl) se_non rfl))))) ss_nil)
    (ss_cons (ss_if (sw_pt (sw_or (st_ne g (se_isi g (by decide) rfl x.b_isinstance rfl x.b_bool (by decide +kernel) (by decide +kernel) rfl (v (i := 0) rfl rfl rfl) rfl rfl rfl) (se_isi g (by decide) rfl x.b_isinstance rfl x.b_bool (by decide +kernel) (by decide +kernel) rfl (v (i := 1) rfl rfl rfl) rfl rfl rfl) rfl) (sw_or1 (st_ne g (se_isi g (by decide) rfl x.b_isinstance rfl x.b_int (by decide +kernel) (by decide +kernel) rfl (v (i := 0) rfl rfl rfl) rfl rfl rfl) (se_isi g (by decide) rfl x.b_isinstance rfl x.b_int (by decide +kernel) (by decide +kernel) rfl (v (i := 1) rfl rfl rfl) rfl rfl rfl) rfl)))) (ss_one (ss_ret se_bl)) ss_nil)
    (ss_one (ss_ret (se_and (se_eq g (se_isi g (by decide) rfl x.b_isinstance rfl x.b_str (by decide +kernel) (by decide +kernel) rfl (v (i := 0) rfl rfl rfl) rfl rfl rfl) (se_isi g (by decide) rfl x.b_isinstance rfl x.b_str (by decide +kernel) (by decide +kernel) rfl (v (i := 1) rfl rfl rfl) rfl rfl rfl) rfl) (se_one (se_eq g (v (i := 0) rfl rfl rfl) (v (i := 1) rfl rfl rfl) rfl))))))))) (ok_law_same x n)
theorem sc_Rules_rules : FnScope ["self"] ["self"] (defScope s_Rules_rules) := ⟨rfl, rfl, rfl, by decide +kernel, rfl, by decide +kernel, by decide +kernel⟩
theorem ok_Rules_rules (x : Fcts P K w mg) : Fk P w K mg base (cl K fr) 1 (He.fAd K ("Rules", some "rules")) ["self"] sm_Rules_rules := Fk.of x.d_Rules_rules sc_Rules_rules (fun _ _ _ _ _ _ us hl => match us, hl with | [_], _ => rfl) fun cd A outer s H E g hr => (ss_one (ss_ret (se_callT call_list_of vLstOf_ok rfl x.b_list (by decide +kernel) (sa_cons (se_fld g (fld1 x.f_Rules_rows) (v (i := 0) rfl rfl rfl) rfl) sa_nil rfl) (by decide +kernel) rfl rfl rfl)))
theorem sc_Rules_starts : FnScope ["self"] ["self"] (defScope s_Rules_starts) := ⟨rfl, rfl, rfl, by decide +kernel, rfl, by decide +kernel, by decide +kernel⟩
theorem ok_Rules_starts (x : Fcts P K w mg) : Fk P w K mg base (cl K fr) 1 ((propGet K (He.ga K "Rules") "starts").2) ["self"] sm_Rules_starts := Fk.of x.d_Rules_starts sc_Rules_starts (fun _ _ _ _ _ _ us hl => match us, hl with | [_], _ => rfl) fun cd A outer s H E g hr => (ss_one (ss_ret (se_fld g (fld1 x.f_Rules_first) (v (i := 0) rfl rfl rfl) rfl)))
theorem pk_Rules_starts (x : Fcts P K w mg) : Pk P w K mg base (cl K fr) 1 (He.ga K "Rules") "starts" sm_Rules_starts := Pk.of x.p_Rules_starts (ok_Rules_starts x)
theorem sc_Rules_repr : FnScope ["self"] ["self"] (defScope s_Rules_repr) := ⟨rfl, rfl, rfl, by decide +kernel, rfl, by decide +kernel, by decide +kernel⟩
theorem ok_Rules_repr (x : Fcts P K w mg) : Fk P w K mg base (cl K fr) 1 (He.fAd K ("Rules", some "__repr__")) ["self"] sm_Rules_repr := Fk.of x.d_Rules_repr sc_Rules_repr (fun _ _ _ _ _ _ us hl => match us, hl with | [_], _ => rfl) fun cd A outer s H E g hr => (ss_one (ss_ret (se_js (SJ.cons se_str (SJ.cons (se_fmt (se_callB call_lenA vLen_ok rfl x.b_len (by decide +kernel) (sa_cons (se_fld g (fld1 x.f_Rules_rows) (v (i := 0) rfl rfl rfl) rfl) sa_nil rfl) (by decide +kernel) rfl rfl rfl)) (SJ.cons se_str SJ.nil))))))
theorem sc_Rules_eq : FnScope ["self", "other"] ["self", "other"] (defScope s_Rules_eq) := ⟨rfl, rfl, rfl, by decide +kernel, rfl, by decide +kernel, by decide +kernel⟩
theorem ok_Rules_eq (x : Fcts P K w mg) : Fk P w K mg base (cl K fr) 1 (He.fAd K ("Rules", some "__eq__")) ["self", "other"] sm_Rules_eq := Fk.of x.d_Rules_eq sc_Rules_eq (fun _ _ _ _ _ _ us hl => match us, hl with | [_, _], _ => rfl) fun cd A outer s H E g hr => (ss_one (ss_ret (se_and (isoK g rfl x.iso_Rules (insB_ok x.c_Rules x.ins_Rules) (fun _ h => by cases h) rfl x.b_isinstance rfl x.g_Rules (by decide +kernel) (v (i := 1) rfl rfl rfl) rfl rfl rfl) (se_one (se_eq g (se_fld g (fld1 x.f_Rules_same) (v (i := 0) rfl rfl rfl) rfl) (se_fld g (fld1 x.f_Rules_same) (v (i := 1) rfl rfl rfl) rfl) rfl)))))
theorem sc_law_of : FnScope ["_law_bag_here", "_law_things"] ["_law_bag_here", "_law_things"] (defScope s_law_of) := ⟨rfl, rfl, rfl, by decide +kernel, rfl, by decide +kernel, by decide +kernel⟩
theorem ok_law_of (x : Fcts P K w mg) : Fk P w K mg base (cl K fr) 2 (He.fAd K ("_law_of", none)) ["_law_bag_here", "_law_things"] sm_law_of := Fk.of x.d_law_of sc_law_of (fun _ _ _ _ _ _ us hl => match us, hl with | [_, _], _ => rfl) fun cd A outer s H E g hr => (ss_one (ss_ret (ixK g (fun _ _ => rfl) (v (i := 1) rfl rfl rfl) (callK (ok_law_pull x) g (hr.mono (by decide)) rfl x.g__law_pull (sa_cons (v (i := 0) rfl rfl rfl) (sa_cons (se_callB call_lenA vLen_ok rfl x.b_len (by decide +kernel) (sa_cons (v (i := 1) rfl rfl rfl) sa_nil rfl) (by decide +kernel) rfl rfl rfl) sa_nil rfl) rfl) rfl rfl rfl))))
-- raises ['InvalidRules']
theorem sc_law_sixty_one : FnScope ["_law_r"] ["_law_r"] (defScope s_law_sixty_one) := ⟨rfl, rfl, rfl, by decide +kernel, rfl, by decide +kernel, by decide +kernel⟩
theorem ok_law_sixty_one (x : Fcts P K w mg) : Xk P w K mg base (cl K fr) 6 (He.fAd K ("_law_sixty_one", none)) ["_law_r"] sm_law_sixty_one := Xk.of x.d_law_sixty_one sc_law_sixty_one (fun _ _ _ _ _ _ us hl => match us, hl with | [_], _ => rfl) fun cd A outer s H E g tk hr => (ss_one (ss_ret (makeSK (ok_Rules_init x) g tk WI.e (hr.mono (by decide)) rfl rfl x.mk_Rules rfl x.g_Rules (sa_cons (se_tup (sa_cons se_int (sa_cons se_int (sa_cons se_int (sa_cons se_int sa_nil rfl) rfl) rfl) rfl)) (sa_cons (v (i := 0) rfl rfl rfl) (sa_cons (v (i := 0) rfl rfl rfl) (sa_cons (v (i := 0) rfl rfl rfl) (sa_cons (v (i := 0) rfl rfl rfl) (sa_cons (v (i := 0) rfl rfl rfl) (sa_cons (v (i := 0) rfl rfl rfl) (sa_cons (v (i := 0) rfl rfl rfl) (sa_cons (v (i := 0) rfl rfl rfl) (sa_cons (v (i := 0) rfl rfl rfl) (sa_cons (v (i := 0) rfl rfl rfl) (sa_cons (v (i := 0) rfl rfl rfl) (sa_cons (v (i := 0) rfl rfl rfl) (sa_cons (v (i := 0) rfl rfl rfl) (sa_cons (v (i := 0) rfl rfl rfl) (sa_cons (v (i := 0) rfl rfl rfl) (sa_cons (v (i := 0) rfl rfl rfl) (sa_cons (v (i := 0) rfl rfl rfl) (sa_cons (v (i := 0) rfl rfl rfl) (sa_cons (v (i := 0) rfl rfl rfl) (sa_cons (v (i := 0) rfl rfl rfl) (sa_cons (v (i := 0) rfl rfl rfl) (sa_cons (v (i := 0) rfl rfl rfl) (sa_cons (v (i := 0) rfl rfl rfl) (sa_cons (v (i := 0) rfl rfl rfl) (sa_cons (v (i := 0) rfl rfl rfl) (sa_cons (v (i := 0) rfl rfl rfl) (sa_cons (v (i := 0) rfl rfl rfl) (sa_cons (v (i := 0) rfl rfl rfl) (sa_cons (v (i := 0) rfl rfl rfl) (sa_cons (v (i := 0) rfl rfl rfl) (sa_cons (v (i := 0) rfl rfl rfl) (sa_cons (v (i := 0) rfl rfl rfl) (sa_cons (v (i := 0) rfl rfl rfl) (sa_cons (v (i := 0) rfl rfl rfl) (sa_cons (v (i := 0) rfl rfl rfl) (sa_cons (v (i := 0) rfl rfl rfl) (sa_cons (v (i := 0) rfl rfl rfl) (sa_cons (v (i := 0) rfl rfl rfl) (sa_cons (v (i := 0) rfl rfl rfl) (sa_cons (v (i := 0) rfl rfl rfl) (sa_cons (v (i := 0) rfl rfl rfl) (sa_cons (v (i := 0) rfl rfl rfl) (sa_cons (v (i := 0) rfl rfl rfl) (sa_cons (v (i := 0) rfl rfl rfl) (sa_cons (v (i := 0) rfl rfl rfl) (sa_cons (v (i := 0) rfl rfl rfl) (sa_cons (v (i := 0) rfl rfl rfl) (sa_cons (v (i := 0) rfl rfl rfl) (sa_cons (v (i := 0) rfl rfl rfl) (sa_cons (v (i := 0) rfl rfl rfl) (sa_cons (v (i := 0) rfl rfl rfl) (sa_cons (v (i := 0) rfl rfl rfl) (sa_cons (v (i := 0) rfl rfl rfl) (sa_cons (v (i := 0) rfl rfl rfl) (sa_cons (v (i := 0) rfl rfl rfl) (sa_cons (v (i := 0) rfl rfl rfl) (sa_cons (v (i := 0) rfl rfl rfl) (sa_cons (v (i := 0) rfl rfl rfl) (sa_cons (v (i := 0) rfl rfl rfl) (sa_cons (v (i := 0) rfl rfl rfl) (sa_cons (v (i := 0) rfl rfl rfl) sa_nil rfl) rfl) rfl) rfl) rfl) rfl) rfl) rfl) rfl) rfl) rfl) rfl) rfl) rfl) rfl) rfl) rfl) rfl) rfl) rfl) rfl) rfl) rfl) rfl) rfl) rfl) rfl) rfl) rfl) rfl) rfl) rfl) rfl) rfl) rfl) rfl) rfl) rfl) rfl) rfl) rfl) rfl) rfl) rfl) rfl) rfl) rfl) rfl) rfl) rfl) rfl) rfl) rfl) rfl) rfl) rfl) rfl) rfl) rfl) rfl) rfl) rfl) rfl rfl rfl)))
-- raises ['InvalidRules']
theorem sc_law_sixty : FnScope ["_law_r"] ["_law_r"] (defScope s_law_sixty) := ⟨rfl, rfl, rfl, by decide +kernel, rfl, by decide +kernel, by decide +kernel⟩
theorem ok_law_sixty (x : Fcts P K w mg) : Xk P w K mg base (cl K fr) 6 (He.fAd K ("_law_sixty", none)) ["_law_r"] sm_law_sixty := Xk.of x.d_law_sixty sc_law_sixty (fun _ _ _ _ _ _ us hl => match us, hl with | [_], _ => rfl) fun cd A outer s H E g tk hr => (ss_one (ss_ret (makeSK (ok_Rules_init x) g tk WI.e (hr.mono (by decide)) rfl rfl x.mk_Rules rfl x.g_Rules (sa_cons (se_tup (sa_cons se_int (sa_cons se_int (sa_cons se_int (sa_cons se_int sa_nil rfl) rfl) rfl) rfl)) (sa_cons (v (i := 0) rfl rfl rfl) (sa_cons (v (i := 0) rfl rfl rfl) (sa_cons (v (i := 0) rfl rfl rfl) (sa_cons (v (i := 0) rfl rfl rfl) (sa_cons (v (i := 0) rfl rfl rfl) (sa_cons (v (i := 0) rfl rfl rfl) (sa_cons (v (i := 0) rfl rfl rfl) (sa_cons (v (i := 0) rfl rfl rfl) (sa_cons (v (i := 0) rfl rfl rfl) (sa_cons (v (i := 0) rfl rfl rfl) (sa_cons (v (i := 0) rfl rfl rfl) (sa_cons (v (i := 0) rfl rfl rfl) (sa_cons (v (i := 0) rfl rfl rfl) (sa_cons (v (i := 0) rfl rfl rfl) (sa_cons (v (i := 0) rfl rfl rfl) (sa_cons (v (i := 0) rfl rfl rfl) (sa_cons (v (i := 0) rfl rfl rfl) (sa_cons (v (i := 0) rfl rfl rfl) (sa_cons (v (i := 0) rfl rfl rfl) (sa_cons (v (i := 0) rfl rfl rfl) (sa_cons (v (i := 0) rfl rfl rfl) (sa_cons (v (i := 0) rfl rfl rfl) (sa_cons (v (i := 0) rfl rfl rfl) (sa_cons (v (i := 0) rfl rfl rfl) (sa_cons (v (i := 0) rfl rfl rfl) (sa_cons (v (i := 0) rfl rfl rfl) (sa_cons (v (i := 0) rfl rfl rfl) (sa_cons (v (i := 0) rfl rfl rfl) (sa_cons (v (i := 0) rfl rfl rfl) (sa_cons (v (i := 0) rfl rfl rfl) (sa_cons (v (i := 0) rfl rfl rfl) (sa_cons (v (i := 0) rfl rfl rfl) (sa_cons (v (i := 0) rfl rfl rfl) (sa_cons (v (i := 0) rfl rfl rfl) (sa_cons (v (i := 0) rfl rfl rfl) (sa_cons (v (i := 0) rfl rfl rfl) (sa_cons (v (i := 0) rfl rfl rfl) (sa_cons (v (i := 0) rfl rfl rfl) (sa_cons (v (i := 0) rfl rfl rfl) (sa_cons (v (i := 0) rfl rfl rfl) (sa_cons (v (i := 0) rfl rfl rfl) (sa_cons (v (i := 0) rfl rfl rfl) (sa_cons (v (i := 0) rfl rfl rfl) (sa_cons (v (i := 0) rfl rfl rfl) (sa_cons (v (i := 0) rfl rfl rfl) (sa_cons (v (i := 0) rfl rfl rfl) (sa_cons (v (i := 0) rfl rfl rfl) (sa_cons (v (i := 0) rfl rfl rfl) (sa_cons (v (i := 0) rfl rfl rfl) (sa_cons (v (i := 0) rfl rfl rfl) (sa_cons (v (i := 0) rfl rfl rfl) (sa_cons (v (i := 0) rfl rfl rfl) (sa_cons (v (i := 0) rfl rfl rfl) (sa_cons (v (i := 0) rfl rfl rfl) (sa_cons (v (i := 0) rfl rfl rfl) (sa_cons (v (i := 0) rfl rfl rfl) (sa_cons (v (i := 0) rfl rfl rfl) (sa_cons (v (i := 0) rfl rfl rfl) (sa_cons (v (i := 0) rfl rfl rfl) (sa_cons (v (i := 0) rfl rfl rfl) sa_nil rfl) rfl) rfl) rfl) rfl) rfl) rfl) rfl) rfl) rfl) rfl) rfl) rfl) rfl) rfl) rfl) rfl) rfl) rfl) rfl) rfl) rfl) rfl) rfl) rfl) rfl) rfl) rfl) rfl) rfl) rfl) rfl) rfl) rfl) rfl) rfl) rfl) rfl) rfl) rfl) rfl) rfl) rfl) rfl) rfl) rfl) rfl) rfl) rfl) rfl) rfl) rfl) rfl) rfl) rfl) rfl) rfl) rfl) rfl) rfl) rfl) rfl rfl rfl)))
theorem sc_law_full_rules : FnScope ["_law_r"] [] (defScope s_law_full_rules) := ⟨rfl, rfl, rfl, by decide +kernel, rfl, by decide +kernel, by decide +kernel⟩
theorem ok_law_full_rules (x : Fcts P K w mg) (tbh : LamX.TabB base mg (He.codeOf K ("_law_full_rules", none)) (He.tabOf K (He.codeOf K ("_law_full_rules", none)))) {f0 : Str × List (Str × Addr)} : Fk P w K mg base (cl K [f0]) 9 (He.fAd K ("_law_full_rules", none)) [] sm_law_full_rules :=
  Fk.ofH (p := ("_law_full_rules", none)) (cl K) [f0] x.d_law_full_rules sc_law_full_rules (fun _ _ _ _ _ _ us hl => match us, hl with | [], _ => rfl) (fun q => up_of (fun _ _ => rfl) (fun _ _ => rfl) (fun _ _ => rfl) (fun _ _ => rfl) (fun _ => rfl) q) fun A outer s H E g hr => (by
    have LM : LamsOk K (cl K ([f0] ++ [(((cxD P w K mg base ["_law_r"] "_law_full_rules" (defScope s_law_full_rules) (He.fAd K ("_law_full_rules", none)) (.ref (He.codeOf K ("_law_full_rules", none))) A outer s H E)).env.qual ++ ("<lambda>" : Str), ((cxD P w K mg base ["_law_r"] "_law_full_rules" (defScope s_law_full_rules) (He.fAd K ("_law_full_rules", none)) (.ref (He.codeOf K ("_law_full_rules", none))) A outer s H E)).env.cells)])) (cxD P w K mg base ["_law_r"] "_law_full_rules" (defScope s_law_full_rules) (He.fAd K ("_law_full_rules", none)) (.ref (He.codeOf K ("_law_full_rules", none))) A outer s H E) 6 3 sm_lams_h := ⟨⟨_, rfl, by kernel_rfl, bindD0 rfl (fun _ _ _ _ _ => rfl), fun A outer s H E f c' g tk hr => (callXK (ok_law_sixty_one x) g tk WI.e (hr.mono (by decide)) rfl x.g__law_sixty_one (sa_cons (v (i := 0) rfl rfl rfl) sa_nil rfl) rfl rfl rfl)⟩, ⟨_, rfl, by kernel_rfl, bindD0 rfl (fun _ _ _ _ _ => rfl), fun A outer s H E f c' g tk hr => (methK0 (ok_Rules_rules x) g (hr.mono (by decide)) rfl rfl x.c_Rules x.m_Rules_rules (callXK (ok_law_sixty x) g tk WI.e (hr.mono (by decide)) rfl x.g__law_sixty (sa_cons (v (i := 0) rfl rfl rfl) sa_nil rfl) rfl rfl rfl) rfl)⟩, trivial⟩
    exact (ss_cons (ss_set g (i := 0) rfl (loc_ok rfl) (se_tup (sa_cons se_int (sa_cons se_int (sa_cons se_int (sa_cons se_int sa_nil rfl) rfl) rfl) rfl)) rfl (.inl rfl))
    (ss_cons (ss_if (st_ne g (se_tryVF (k := 6) (lam_d x) (tryok x) g (hr.mono (by decide)) rfl x.g__law_try rfl (offF_ok LM) (lamVT (l1 := [((He.cT K ("law", none)).2, lamQ)]) (l2 := []) (r := lamAt s_law_full_rules [1] [0, 1]) g rfl rfl tbh rfl rfl (ne_l x.net) (by kernel_rfl) (.inl ⟨rfl, rfl⟩)) (by decide +kernel)) (se_tup (sa_cons se_str (sa_cons se_int sa_nil rfl) rfl)) rfl) (ss_one (ss_ret se_bl)) ss_nil)
    (ss_one (ss_ret (se_eq g (se_tryVF (k := 6) (lam_d x) (tryok x) g (hr.mono (by decide)) rfl x.g__law_try rfl (offF_ok LM) (lamVT (l1 := [((He.cT K ("law", none)).2, lamQ)]) (l2 := []) (r := lamAt s_law_full_rules [2] [0, 1]) g rfl rfl tbh rfl rfl (ne_l x.net) (by kernel_rfl) (.inl ⟨rfl, rfl⟩)) (by decide +kernel)) (se_tup (sa_cons se_str (sa_cons (se_mulL (se_lst (sa_cons (v (i := 0) rfl rfl rfl) sa_nil rfl)) se_int) sa_nil rfl) rfl)) rfl))))))
theorem sc_law : FnScope ["_law_script", "_law_bag_here", "_law_turn", "_law_starts_here", "_law_rules_here", "_law_made", "_law_odd", "_law_bad", "_law_asks", "_law_ask"] ["_law_script"] (defScope s_law) := ⟨rfl, rfl, rfl, by decide +kernel, rfl, by decide +kernel, by decide +kernel⟩
theorem ok_law (x : Fcts P K w mg) (tb : LamX.TabB base mg (He.codeOf K ("law", none)) (He.tabOf K (He.codeOf K ("law", none)))) (tbh : LamX.TabB base mg (He.codeOf K ("_law_full_rules", none)) (He.tabOf K (He.codeOf K ("_law_full_rules", none)))) {fd : FuncData} (Fd : FunD K "law" "law" (defArgs s_law) (defBody s_law) (defScope s_law) [] [] (He.fAd K ("law", none)) fd) : FnOk P w K mg base CX0 15 (He.fAd K ("law", none)) fd ["_law_script"] (spL K [((He.cT K ("law", none)).2, lamQ), ((He.cT K ("_law_full_rules", none)).2, lamQh)] sm_law) :=
  law_fnC (p := ("law", none)) (cl K) Fd sc_law (fun _ => rfl) fun A outer s H E g hr => (by
    have LM : LamsOk K (cl K [(((cxD P w K mg base ["_law_script", "_law_bag_here", "_law_turn", "_law_starts_here", "_law_rules_here", "_law_made", "_law_odd", "_law_bad", "_law_asks", "_law_ask"] "law" (defScope s_law) (He.fAd K ("law", none)) (.ref (He.codeOf K ("law", none))) A outer s H E)).env.qual ++ ("<lambda>" : Str), ((cxD P w K mg base ["_law_script", "_law_bag_here", "_law_turn", "_law_starts_here", "_law_rules_here", "_law_made", "_law_odd", "_law_bad", "_law_asks", "_law_ask"] "law" (defScope s_law) (He.fAd K ("law", none)) (.ref (He.codeOf K ("law", none))) A outer s H E)).env.cells)]) (cxD P w K mg base ["_law_script", "_law_bag_here", "_law_turn", "_law_starts_here", "_law_rules_here", "_law_made", "_law_odd", "_law_bad", "_law_asks", "_law_ask"] "law" (defScope s_law) (He.fAd K ("law", none)) (.ref (He.codeOf K ("law", none))) A outer s H E) 12 0 sm_lams := ⟨⟨_, rfl, by kernel_rfl, bindD1 "_law_a" rfl rfl (fun _ _ _ _ _ _ => ⟨_, rfl, fun _ => rfl⟩), fun A outer s H E f c' g tk hr => (makeSK (ok_Rules_init x) g tk WI.e (hr.mono (by decide)) rfl rfl x.mk_Rules rfl x.g_Rules (sa_cons (v (i := 3) rfl rfl rfl) (sa_cons (v (i := 6) rfl rfl rfl) sa_nil rfl) rfl) rfl rfl rfl)⟩, ⟨_, rfl, by kernel_rfl, bindD0 rfl (fun _ _ _ _ _ => rfl), fun A outer s H E f c' g tk hr => (makeSK (ok_Rules_init x) g tk WI.e (hr.mono (by decide)) rfl rfl x.mk_Rules rfl x.g_Rules (sa_cons (v (i := 7) rfl rfl rfl) (sa_cons (v (i := 6) rfl rfl rfl) sa_nil rfl) rfl) rfl rfl rfl)⟩, ⟨_, rfl, by kernel_rfl, bindD1 "_law_b" rfl rfl (fun _ _ _ _ _ _ => ⟨_, rfl, fun _ => rfl⟩), fun A outer s H E f c' g tk hr => (makeSK (ok_Rules_init x) g tk WI.e (hr.mono (by decide)) rfl rfl x.mk_Rules rfl x.g_Rules (sa_cons (v (i := 3) rfl rfl rfl) (sa_cons (se_tup (sa_cons se_int (sa_cons se_int (sa_cons se_int (sa_cons se_int sa_nil rfl) rfl) rfl) rfl)) (sa_cons (v (i := 6) rfl rfl rfl) (sa_cons se_non sa_nil rfl) rfl) rfl) rfl) rfl rfl rfl)⟩, trivial⟩
    exact (ss_cons (ss_set g (i := 1) rfl (loc_ok rfl) (callK (ok_law_bag x) g (hr.mono (by decide)) rfl x.g__law_bag (sa_cons (v (i := 0) rfl rfl rfl) sa_nil rfl) rfl rfl rfl) rfl (.inl rfl))
    (ss_cons (ss_for PassesOwn.never g (si_rng1 rfl x.b_range se_int rfl) (sg_name g (i := 2) rfl (loc_ok rfl) (.inl rfl)) (ss_cons (ss_put (sg_tup g (sgs_cons (sg_name g (i := 3) rfl (loc_ok rfl) (.inl rfl)) (sgs_cons (sg_name g (i := 4) rfl (loc_ok rfl) (.inl rfl)) sgs_nil rfl) rfl) rfl rfl rfl) (se_tup (sa_cons (callK (ok_law_starts x) g (hr.mono (by decide)) rfl x.g__law_starts (sa_cons (v (i := 1) rfl rfl rfl) sa_nil rfl) rfl rfl rfl) (sa_cons (callK (ok_law_rules x) g (hr.mono (by decide)) rfl x.g__law_rules (sa_cons (v (i := 1) rfl rfl rfl) sa_nil rfl) rfl rfl rfl) sa_nil rfl) rfl)) rfl rfl rfl)
    (ss_cons (ss_set g (i := 5) rfl (loc_ok rfl) (callXK (ok_law_program x) g tk0 wi0 (hr.mono (by decide)) rfl x.g__law_program (sa_cons (v (i := 3) rfl rfl rfl) (sa_cons (v (i := 4) rfl rfl rfl) sa_nil rfl) rfl) rfl rfl rfl) rfl (.inl rfl))
    (ss_cons (ss_expr (se_bm0 g F.plainAttrs_list F.slot_list_clear F.type_list_clear mt_clear vClear_ok (methK0 (ok_Rules_rules_c x) g (hr.mono (by decide)) rfl rfl x.c_Rules x.m_Rules_rules (v (i := 5) rfl rfl rfl) rfl) rfl rfl) rfl)
    (ss_cons (ss_if (sw_pt (sw_or (st_not (st_tru g (callK (ok_law_same x 12) g (hr.mono (by decide)) rfl x.g__law_same (sa_cons (se_lst (sa_cons (propK (pk_Rules_starts x) g (hr.mono (by decide)) rfl x.c_Rules (v (i := 5) rfl rfl rfl) rfl) (sa_cons (methK0 (ok_Rules_rules x) g (hr.mono (by decide)) rfl rfl x.c_Rules x.m_Rules_rules (v (i := 5) rfl rfl rfl) rfl) sa_nil rfl) rfl)) (sa_cons (se_lst (sa_cons (v (i := 3) rfl rfl rfl) (sa_cons (v (i := 4) rfl rfl rfl) sa_nil rfl) rfl)) sa_nil rfl) rfl) rfl rfl rfl) (fun _ => rfl))) (sw_or1 (st_ne g (se_reprO (ok_Rules_repr x) g (hr.mono (by decide)) rfl x.m_Rules_repr rfl x.b_repr (v (i := 5) rfl rfl rfl) rfl rfl) (se_add g (se_add g se_str (se_callT call_strA vStr_ok rfl x.b_str (by decide +kernel) (sa_cons (se_callB call_lenA vLen_ok rfl x.b_len (by decide +kernel) (sa_cons (v (i := 4) rfl rfl rfl) sa_nil rfl) (by decide +kernel) rfl rfl rfl) sa_nil rfl) (by decide +kernel) rfl rfl rfl)) se_str) rfl)))) (ss_one (ss_ret se_bl)) ss_nil)
    (ss_cons (ss_if (sw_pt (sw_or (st_neO (ok_Rules_eq x) x.nc_Rules g (hr.mono (by decide)) rfl x.m_Rules_eq (v (i := 5) rfl rfl rfl) (callXK (ok_law_program x) g tk0 wi0 (hr.mono (by decide)) rfl x.g__law_program (sa_cons (v (i := 3) rfl rfl rfl) (sa_cons (v (i := 4) rfl rfl rfl) sa_nil rfl) rfl) rfl rfl rfl) rfl) (sw_or (st_ne g (se_eqO (ok_Rules_eq x) g (hr.mono (by decide)) rfl x.m_Rules_eq (v (i := 5) rfl rfl rfl) (callXK (ok_law_program x) g tk0 wi0 (hr.mono (by decide)) rfl x.g__law_program (sa_cons (v (i := 3) rfl rfl rfl) (sa_cons (se_revL (v (i := 4) rfl rfl rfl)) sa_nil rfl) rfl) rfl rfl rfl) rfl) (se_eq g (v (i := 4) rfl rfl rfl) (se_revL (v (i := 4) rfl rfl rfl)) rfl) rfl) (sw_or1 (st_eqO (ok_Rules_eq x) g (hr.mono (by decide)) rfl x.m_Rules_eq (v (i := 5) rfl rfl rfl) (v (i := 3) rfl rfl rfl) rfl))))) (ss_one (ss_ret se_bl)) ss_nil)
    (ss_cons (ss_if (st_eqO (ok_Rules_eq x) g (hr.mono (by decide)) rfl x.m_Rules_eq (v (i := 5) rfl rfl rfl) (callXK (ok_law_program x) g tk0 wi0 (hr.mono (by decide)) rfl x.g__law_program (sa_cons (se_add g (se_sl g (v (i := 3) rfl rfl rfl) so_none (so_some se_int)) (se_tup (sa_cons (se_sub se_int (ixK g (fun _ _ => rfl) (v (i := 3) rfl rfl rfl) se_int)) sa_nil rfl))) (sa_cons (v (i := 4) rfl rfl rfl) sa_nil rfl) rfl) rfl rfl rfl) rfl) (ss_one (ss_ret se_bl)) ss_nil)
    (ss_cons (ss_set g (i := 6) rfl (loc_ok rfl) (callK (ok_law_of x) g (hr.mono (by decide)) rfl x.g__law_of (sa_cons (v (i := 1) rfl rfl rfl) (sa_cons (se_lst (sa_cons (se_tup (sa_cons se_int (sa_cons se_int (sa_cons se_int sa_nil rfl) rfl) rfl)) (sa_cons (se_tup (sa_cons se_int (sa_cons se_int (sa_cons se_int (sa_cons se_int sa_nil rfl) rfl) rfl) rfl)) (sa_cons (se_tup (sa_cons se_int (sa_cons se_int (sa_cons se_int (sa_cons se_int sa_nil rfl) rfl) rfl) rfl)) (sa_cons (se_tup (sa_cons se_int (sa_cons (se_neg se_int) (sa_cons se_int (sa_cons se_int sa_nil rfl) rfl) rfl) rfl)) (sa_cons (se_tup (sa_cons se_int (sa_cons se_int (sa_cons se_int (sa_cons se_int sa_nil rfl) rfl) rfl) rfl)) (sa_cons (se_tup (sa_cons se_int (sa_cons se_int (sa_cons se_int (sa_cons se_int sa_nil rfl) rfl) rfl) rfl)) (sa_cons se_non (sa_cons (se_lst (sa_cons se_int (sa_cons se_int (sa_cons se_int (sa_cons se_int sa_nil rfl) rfl) rfl) rfl)) (sa_cons (se_tup (sa_cons se_bl (sa_cons se_int (sa_cons se_int (sa_cons se_int sa_nil rfl) rfl) rfl) rfl)) (sa_cons (se_tup (sa_cons se_int (sa_cons se_int (sa_cons se_int (sa_cons se_non sa_nil rfl) rfl) rfl) rfl)) sa_nil rfl) rfl) rfl) rfl) rfl) rfl) rfl) rfl) rfl) rfl)) sa_nil rfl) rfl) rfl rfl rfl) rfl (.inl rfl))
    (ss_cons (ss_set g (i := 7) rfl (loc_ok rfl) (callK (ok_law_of x) g (hr.mono (by decide)) rfl x.g__law_of (sa_cons (v (i := 1) rfl rfl rfl) (sa_cons (se_lst (sa_cons (se_tup (sa_cons se_int (sa_cons se_int (sa_cons se_int sa_nil rfl) rfl) rfl)) (sa_cons (se_lst (sa_cons se_int (sa_cons se_int (sa_cons se_int (sa_cons se_int sa_nil rfl) rfl) rfl) rfl)) (sa_cons se_non (sa_cons (se_tup (sa_cons se_int (sa_cons se_int (sa_cons se_int (sa_cons se_int sa_nil rfl) rfl) rfl) rfl)) (sa_cons (se_tup (sa_cons se_int (sa_cons (se_neg se_int) (sa_cons se_int (sa_cons se_int sa_nil rfl) rfl) rfl) rfl)) (sa_cons (se_tup (sa_cons se_int (sa_cons se_int (sa_cons se_bl (sa_cons se_int sa_nil rfl) rfl) rfl) rfl)) (sa_cons (se_tup (sa_cons se_int (sa_cons se_int (sa_cons se_int (sa_cons se_int (sa_cons se_int sa_nil rfl) rfl) rfl) rfl) rfl)) (sa_cons se_int sa_nil rfl) rfl) rfl) rfl) rfl) rfl) rfl) rfl)) sa_nil rfl) rfl) rfl rfl rfl) rfl (.inl rfl))
    (ss_cons (ss_set g (i := 8) rfl (loc_ok rfl) (se_lst (sa_cons (lamVT (l1 := []) (l2 := [((He.cT K ("_law_full_rules", none)).2, lamQh)]) (r := lamAt s_law [1, 8] [0]) g rfl rfl tb rfl rfl (ne_r x.net.symm) (by kernel_rfl) (.inl ⟨rfl, rfl⟩)) (sa_cons (lamVT (l1 := []) (l2 := [((He.cT K ("_law_full_rules", none)).2, lamQh)]) (r := lamAt s_law [1, 8] [1]) g rfl rfl tb rfl rfl (ne_r x.net.symm) (by kernel_rfl) (.inr ⟨rfl, rfl, _, _, rfl⟩)) sa_nil rfl) rfl)) rfl (.inl rfl))
    (ss_cons (ss_set g (i := 8) rfl (loc_ok rfl) (se_add g (v (i := 8) rfl rfl rfl) (se_lst (sa_cons (lamVT (l1 := []) (l2 := [((He.cT K ("_law_full_rules", none)).2, lamQh)]) (r := lamAt s_law [1, 9] [1, 0]) g rfl rfl tb rfl rfl (ne_r x.net.symm) (by kernel_rfl) (.inr ⟨rfl, rfl, _, _, rfl⟩)) sa_nil rfl))) rfl (.inl rfl))
    (ss_one (ss_if (st_ne g (se_lcT g finP_ok (own := [("_law_ask", 9)]) (by kernel_rfl) rfl (si_of g (v (i := 8) rfl rfl rfl)) (by decide +kernel) (fun _ => (sg_name (GX.blk g) (i := 9) rfl (loc_ok rfl) (by first | exact .inl rfl | exact .inr rfl))) (so_try (k := 12) (lam_d x) (tryok x) g (hr.mono (by decide)) (fun _ => rfl) x.g__law_try rfl LM (fun _ => (v (i := 9) rfl rfl rfl)) (by decide +kernel)) (fun _ => rfl)) (se_lst (sa_cons (se_tup (sa_cons se_str (sa_cons (se_neg se_int) sa_nil rfl) rfl)) (sa_cons (se_tup (sa_cons se_str (sa_cons se_int sa_nil rfl) rfl)) (sa_cons (se_tup (sa_cons se_str (sa_cons se_int sa_nil rfl) rfl)) sa_nil rfl) rfl) rfl)) rfl) (ss_one (ss_ret se_bl)) ss_nil)))))))))))) (fun _ => rfl))
    (ss_one (ss_ret (se_and (se_eq g (se_cint x.ci_Rules_STATES g rfl x.g_Rules (by decide +kernel) rfl) se_int rfl) (se_and (se_eq g (methK0 (ok_Rules_rules x) g (hr.mono (by decide)) rfl rfl x.c_Rules x.m_Rules_rules (makeSK (ok_Rules_init x) g tk0 wi0 (hr.mono (by decide)) rfl rfl x.mk_Rules rfl x.g_Rules (sa_cons (se_tup (sa_cons se_int (sa_cons se_int (sa_cons se_int (sa_cons se_int sa_nil rfl) rfl) rfl) rfl)) sa_nil rfl) rfl rfl rfl) rfl) (se_lst sa_nil) rfl) (se_one (callK0 (ok_law_full_rules x tbh) g (hr.mono (by decide)) rfl x.g__law_full_rules rfl)))))))))
end
theorem tabW {w : World} {h : Heap} {K : PySem.W.Frag} (c : He.SaysX fa fn ts tf ex w h K) (i : Nat) {t : He.Tab} (e : ts[i]? = some t) : He.dicW K (t.1 K) = some (He.keysIn w.params t.2) := by
  have z : (ts.map fun t => He.dicW K (t.1 K)) = ts.map fun t => some (He.keysIn w.params t.2) := congrArg (fun z : He.AlT => z.2) c.t
  have z2 := congrArg (fun l => l[i]?) z
  simp only [List.getElem?_map, e] at z2
  first | exact Option.some.inj z2 | exact z2 | simpa using z2
theorem exV {w : World} {h : Heap} {K : PySem.W.Frag} (c : He.SaysX fa fn ts tf ex w h K) (i : Nat) {b : Bool} (e : (exl K)[i]? = some b) : b = true := List.all_eq_true.mp c.more b (List.mem_of_getElem? e)
theorem fx {P : Program} {w : World} {h : Heap} {K : PySem.W.Frag} {mg : Str → Option Value} (pf : FileOf P "/claim/cut.py") (X : K.In h) (G : h.Ns mainGlobals mg) (c : SaysE fa fn ts tf ex es w h K) : Fcts P K w mg where
  g__law_bag := He.glo_ok X G (c.x.t.d.fact 0 rfl)
  g__law_pull := He.glo_ok X G (c.x.t.d.fact 1 rfl)
  g__law_rules := He.glo_ok X G (c.x.t.d.fact 2 rfl)
  g__law_starts := He.glo_ok X G (c.x.t.d.fact 3 rfl)
  g_is_number := He.glo_ok X G (c.x.t.d.fact 4 rfl)
  g_is_within := He.glo_ok X G (c.x.t.d.fact 5 rfl)
  g_is_rule := He.glo_ok X G (c.x.t.d.fact 6 rfl)
  g__law_program := He.glo_ok X G (c.x.t.d.fact 7 rfl)
  g__law_same := He.glo_ok X G (c.x.t.d.fact 8 rfl)
  g__law_of := He.glo_ok X G (c.x.t.d.fact 9 rfl)
  g__law_sixty_one := He.glo_ok X G (c.x.t.d.fact 10 rfl)
  g__law_sixty := He.glo_ok X G (c.x.t.d.fact 11 rfl)
  g__law_full_rules := He.glo_ok X G (c.x.t.d.fact 12 rfl)
  g_law := He.glo_ok X G (c.x.t.d.fact 13 rfl)
  g__law_try := He.glo_ok X G (c.x.t.d.fact 14 rfl)
  g__law_field := He.glo_ok X G (c.x.t.d.fact 15 rfl)
  g_Rules := He.glo_ok X G (c.x.t.d.fact 16 rfl)
  g_InvalidRules := He.glo_ok X G (c.x.t.d.fact 17 rfl)
  g_Missing := He.glo_ok X G (c.x.t.d.fact 18 rfl)
  g_NothingLeft := He.glo_ok X G (c.x.t.d.fact 19 rfl)
  g_SayError := He.glo_ok X G (c.x.t.d.fact 20 rfl)
  b_all := He.free_ok X G (c.x.t.d.fact 21 rfl)
  b_bool := He.free_ok X G (c.x.t.d.fact 22 rfl)
  b_enumerate := He.free_ok X G (c.x.t.d.fact 23 rfl)
  b_int := He.free_ok X G (c.x.t.d.fact 24 rfl)
  b_isinstance := He.free_ok X G (c.x.t.d.fact 25 rfl)
  b_len := He.free_ok X G (c.x.t.d.fact 26 rfl)
  b_list := He.free_ok X G (c.x.t.d.fact 27 rfl)
  b_range := He.free_ok X G (c.x.t.d.fact 28 rfl)
  b_repr := He.free_ok X G (c.x.t.d.fact 29 rfl)
  b_str := He.free_ok X G (c.x.t.d.fact 30 rfl)
  b_super := He.free_ok X G (c.x.t.d.fact 31 rfl)
  b_tuple := He.free_ok X G (c.x.t.d.fact 32 rfl)
  b_zip := He.free_ok X G (c.x.t.d.fact 33 rfl)
  i_MOST_HEARD := He.int_ok X G (c.x.t.d.fact 34 rfl)
  i_MOST_RULES := He.int_ok X G (c.x.t.d.fact 35 rfl)
  i_MOST_STATES := He.int_ok X G (c.x.t.d.fact 36 rfl)
  x_InvalidRules_SayError := He.exm_ok (c.x.t.d.fact 37 rfl)
  c_Rules := He.cls_ok (c.x.t.d.fact 38 rfl)
  mk_Rules := He.mkr_ok (c.x.t.d.fact 39 rfl)
  m_Rules_eq := He.meth_ok (c.x.t.d.fact 40 rfl)
  m_Rules_repr := He.meth_ok (c.x.t.d.fact 41 rfl)
  m_Rules_rules := He.meth_ok (c.x.t.d.fact 42 rfl)
  f_Rules_first := fun {fr} => ⟨⟨_, _, rfl, by decide +kernel, rfl, He.cls_ok (c.x.t.d.fact 38 rfl), He.noat_ok (c.x.t.d.fact 43 rfl)⟩⟩
  f_Rules_rows := fun {fr} => ⟨⟨_, _, rfl, by decide +kernel, rfl, He.cls_ok (c.x.t.d.fact 38 rfl), He.noat_ok (c.x.t.d.fact 44 rfl)⟩⟩
  f_Rules_same := fun {fr} => ⟨⟨_, _, rfl, by decide +kernel, rfl, He.cls_ok (c.x.t.d.fact 38 rfl), He.noat_ok (c.x.t.d.fact 45 rfl)⟩⟩
  e_InvalidRules := exV c.x 0 rfl
  de_InvalidRules := (c.def_ 0 rfl).1
  dd_InvalidRules := (c.def_ 0 rfl).2
  p_Rules_starts := propB_ok (exV c.x 1 rfl)
  d_Rules_starts := DefE.funD (c.def_ 1 rfl).1 (c.def_ 1 rfl).2 rfl
  iso_Rules := exV c.x 2 rfl
  ins_Rules := exV c.x 3 rfl
  nc_Rules := neB_ok (exV c.x 4 rfl)
  ci_Rules_STATES := cintB_ok (exV c.x 5 rfl)
  net := of_decide_eq_true (exV c.x 6 rfl)
  pf := pf
  d_law_bag := c.x.t.d.def_ 0 rfl
  d_law_pull := c.x.t.d.def_ 1 rfl
  d_law_rules := c.x.t.d.def_ 2 rfl
  d_law_starts := c.x.t.d.def_ 3 rfl
  d_is_number := c.x.t.d.def_ 4 rfl
  d_is_within := c.x.t.d.def_ 5 rfl
  d_is_rule := c.x.t.d.def_ 6 rfl
  d_Rules_init := c.x.t.d.def_ 7 rfl
  d_law_program := c.x.t.d.def_ 8 rfl
  d_Rules_rules := c.x.t.d.def_ 9 rfl
  d_law_same := c.x.t.d.def_ 10 rfl
  d_Rules_repr := c.x.t.d.def_ 11 rfl
  d_Rules_eq := c.x.t.d.def_ 12 rfl
  d_law_of := c.x.t.d.def_ 13 rfl
  d_law_sixty_one := c.x.t.d.def_ 14 rfl
  d_law_sixty := c.x.t.d.def_ 15 rfl
  d_law_full_rules := c.x.t.d.def_ 16 rfl
  d_law_try := c.x.t.d.def_ 18 rfl
  d_law_field := c.x.t.d.def_ 19 rfl
theorem facts {P : Program} {w : World} {K : PySem.W.Frag} {h : Heap} {mg : Str → Option Value} {f : Addr} (pf : FileOf P "/claim/cut.py") (X : K.In h) (G : h.Ns mainGlobals mg) (hfa : mg ("law" : Str) = some (.ref f)) (c : SaysE fa fn ts tf ex es w h K) :
    ∃ fd : FuncData, (∀ (s : Shared) (v : Value), BindsTo s fd ⟨[v], []⟩ [("_law_script", v)]) ∧ ∀ base : Heap, K.In base → base.Ns mainGlobals mg → LamX.TabB base mg (He.cT K ("law", none)).1 (He.cT K ("law", none)).2 → LamX.TabB base mg (He.cT K ("_law_full_rules", none)).1 (He.cT K ("_law_full_rules", none)).2 → FnOk P w K mg base CX0 15 f fd ["_law_script"] (spL K [((He.cT K ("law", none)).2, lamQ), ((He.cT K ("_law_full_rules", none)).2, lamQh)] sm_law) := by
  obtain ⟨fd, F⟩ := c.x.t.d.def_ 17 rfl
  have e := hfa.symm.trans (He.glo_ok X G (c.x.t.d.fact 13 rfl))
  cases e
  have b := FunD.bindsA (ps := ["_law_script"]) F fun _ _ _ _ _ _ us hl => match us, hl with | [_], _ => rfl
  exact ⟨fd, fun s v => b s [v] rfl, fun base _ _ tb tbh => ok_law (fx pf X G c) tb tbh F⟩
end K53
open PySem PySem.W PySem.Calls PyProof.Rows
theorem K53.fileOf : Y.FileOf (PySem.Challenge.rw_sharesay_k53_rules_refused).prog "/claim/cut.py" := ⟨by kernel_rfl, by kernel_rfl⟩
theorem PySem.Challenge.cw_sharesay_k53_rules_refused_holds : PySem.Challenge.rw_sharesay_k53_rules_refused.Holds := by
  w_on; o_law
  refine HandSHeadRun.head_any (r := OpenLaw.row PySem.Challenge.rw_sharesay_k53_rules_refused) (q := view (OpenLaw.row PySem.Challenge.rw_sharesay_k53_rules_refused).prog [28]) (H := K53.hk) (ob := K53.ob) (M := 60000) (loose := K53.loose) (d := HandSHeadRun.topDef (OpenLaw.row PySem.Challenge.rw_sharesay_k53_rules_refused).prog 28) (kwd := []) K53.ob_eq
    (by kernel_rfl) (fun s => by kernel_rfl) K53.run (by kernel_rfl) (by kernel_rfl) (by kernel_rfl) (by rfl) (by first | assumption | decide +kernel) (by decide +kernel) ⟨rfl, rfl, rfl, rfl, rfl, by decide +kernel⟩ ?hw ?hc
  case hw => w_witness2
  case hc =>
    refine LamX.walk_ofTsE (l := PySem.Challenge.rw_sharesay_k53_rules_refused) (n := 63) (k := 15) (x := "_law_script") (CX := fun _ => L2.CX0) rfl (by decide) (by kernel_rfl) ⟨rfl, by decide, by decide⟩ ?F (fun _ _ _ _ _ z => z)
    intro w mg fa h Y G hmg0
    obtain ⟨K, KX, c⟩ := Y
    have hmg : mg ("law" : PySem.Str) = some (.ref fa) := by
      have e : (HandSHeadRun.topDef (OpenLaw.row PySem.Challenge.rw_sharesay_k53_rules_refused).prog 28).name = ("law" : PySem.Str) := by kernel_rfl
      rw [← e]
      exact hmg0
    obtain ⟨fd, hb, hF⟩ := K53.facts (P := (PySem.Challenge.rw_sharesay_k53_rules_refused).prog) (w := w) K53.fileOf KX G hmg c
    have two : ∀ {Q : Addr × Addr → Prop}, Q (He.cT K ("law", none)) → Q (He.cT K ("_law_full_rules", none)) → ∀ p ∈ [He.cT K ("law", none), (He.cT K ("_law_full_rules", none))], Q p := fun {Q} q q2 p hp => by
      rcases List.mem_cons.mp hp with e | hp
      · rw [e]; exact q
      · rw [List.mem_singleton.mp hp]; exact q2
    exact ⟨K, KX, fd, [He.cT K ("law", none), (He.cT K ("_law_full_rules", none))], Y.spL K [((He.cT K ("law", none)).2, K53.lamQ), ((He.cT K ("_law_full_rules", none)).2, K53.lamQh)] K53.sm_law, two (c.x.empty _ (by simp [K53.tf])) (c.x.empty _ (by simp [K53.tf])), two (c.x.out _ (by simp [K53.tf])) (c.x.out _ (by simp [K53.tf])), two (PySem.W.codeHd_of_K KX (c.x.hd _ (by simp [K53.tf]))) (PySem.W.codeHd_of_K KX (c.x.hd _ (by simp [K53.tf]))), hb,
      fun H a ns hl _ hT hS => (K53.plain ns (by omega)).elim fun st hp => ⟨a, ns, st, rfl, hS, fun p hp => (by
        rcases List.mem_cons.mp hp with e | hp
        · rw [e]; exact hT _ (by simp)
        · rw [List.mem_singleton.mp hp]; exact hT _ (by simp)), hp, fun _ => rfl⟩, fun base b1 b2 b3 => hF base b1 b2 (b3 _ (by simp)) (b3 _ (by simp))⟩

