import PyProof.Rows.All
import Wide.All
import OpenK.AllK
import Wide.FinOn
import HandS.ForMost
import HandS.ForExc
import HandS.Star
import HandS.Walk
import HandS.TupAny
import HandS.TupMul
import HandS.Deep
import HandS.CallSlots
import HandS.IsInst
import HandS.Zip
import KE.KeyNested
import KE.KDictKeyed
import KE.KDictPairs
import HandS.Lambda
import HandS.Style
import HandS.More
import HandS.NoneIn
import KE.GoesEnum
import KE.GoesMore
import HandS.Defaults
import HandS.Head0
import HandS.Head1
import HandS.Head2
import HandS.HeadEnd
import HandS.HeadHook1
import HandS.HeadHook2
import HandS.HeadHook3
import HandS.HeadHook4
import KE.DatumOrd
import HandS.SortKw
import HandS.Strs
import KE.SortData
import KE.KDictCopyH
import PyProof.DictRoadsH
import PyProof.DictTruth
import HandS.ExcInit
import HandS.ExcField
import HandS.ExcIs
import HandS.Exc
import KE.KDictDisplayH
import HandS.Conv
import PyProof.FactsAll.tuple_0
import PyProof.FactsAll.tuple_2
import PySem.Challenge.RW_earlyreads_k03_rules_by_hand
set_option Elab.async false
set_option linter.all false
set_option maxRecDepth 100000
set_option maxHeartbeats 4000000
/-! DSA: values as trees, a heap by numbers, the relation to the hand layer's heap. -/
namespace DS
open PySem PySem.Spec PyProof.Rows L2

inductive D where
  | non
  | bl (b : Bool)
  | int (i : Int)
  | str (x : Str)
  | tup (xs : List D)
  | ref (n : Nat)
  | sl (xs : List D)

inductive O where
  | lst (xs : List D)
  | dct (kvs : List (Key × D))
  | dtt (kvs : List (D × D))
  | dtz (kvs : List (D × D))
  | otp (xs : List D)
  | ins (c : Nat) (fs : List (Str × D))
  | xob (c : Nat) (fs : List (Str × D))

/-- the classes' places; the world -/
structure CW where
  f : Nat → Addr
  w : World
  T : List (Addr × Str) := []
instance : CoeFun CW (fun _ => Nat → Addr) := ⟨CW.f⟩
abbrev Hs := List O
abbrev En := List (Option D)

/-- an exception: its class's number, its fields -/
structure Ex where
  cls : Nat
  fs : List (Str × D)

inductive R (α : Type) where
  | ok (a : α) (h : Hs)
  | exc (x : Ex) (h : Hs)
  | bad
def R.bind {α β : Type} (r : R α) (f : α → Hs → R β) : R β :=
  match r with
  | .ok a h => f a h
  | .exc x h => .exc x h
  | .bad => .bad
@[simp] theorem bind_ok {α β : Type} (a : α) (h : Hs) (f : α → Hs → R β) : (R.ok a h).bind f = f a h := rfl
@[simp] theorem bind_exc {α β : Type} (x : Ex) (h : Hs) (f : α → Hs → R β) : (R.exc x h : R α).bind f = .exc x h := rfl
@[simp] theorem bind_bad {α β : Type} (f : α → Hs → R β) : (R.bad : R α).bind f = .bad := rfl

/-! ### relation -/
/-- what never changes -/
def StO : HO → Prop
  | .frz _ _ => True
  | .xd _ => True
  | _ => False
def isTbl : HO → Bool
  | .tbl _ => true
  | _ => false
theorem isTbl_ex {o : HO} (h : isTbl o = true) : ∃ ps, o = .tbl ps := by
  cases o with
  | tbl ps => exact ⟨ps, rfl⟩
  | _ => cases h
/-- .. or is a table -/
def StW : HO → Prop
  | .frz _ _ => True
  | .xd _ => True
  | .tbl _ => True
  | _ => False
/-- .. or told by what is true of it -/
def StJ : HO → Prop
  | .frz _ _ => True
  | .xd _ => True
  | .tbl _ => True
  | .ext _ => True
  | _ => False
def TbE : HO → Prop
  | .tbl _ => True
  | .ext _ => True
  | _ => False
theorem StO.w {o : HO} (h : StO o) : StW o := by cases o <;> first | exact trivial | exact h.elim
theorem StO.j {o : HO} (h : StO o) : StJ o := by cases o <;> first | exact trivial | exact h.elim
theorem TbE.j {o : HO} (h : TbE o) : StJ o := by cases o <;> first | exact trivial | exact h.elim
/-- a table of code objects, and they -/
def TbO (H : Hp) (mu : List Addr) (P : Addr) (q : Str) : Prop := P ∉ mu ∧ ∃ ps : Array Value, H P = some (.tbl ps) ∧ TriplesOk ps.toList ∧ ∀ (pos : Pos) (cv : Value), codeAmong pos ps.toList = some cv → ∃ c, cv = .ref c ∧ c ∉ mu ∧ H c = some (LamX.CodeO c q)
theorem TbO.keep {H H' : Hp} {mu mu' : List Addr} {P : Addr} {q : Str} (t : TbO H mu P q) (k : ∀ a o, a ∉ mu → H a = some o → TbE o → H' a = some o) (n : ∀ a o, a ∉ mu → H a = some o → TbE o → a ∉ mu') : TbO H' mu' P q := by
  obtain ⟨h1, ps, h2, h3, h4⟩ := t
  refine ⟨n P _ h1 h2 trivial, ps, k P _ h1 h2 trivial, h3, fun pos cv e => ?_⟩
  obtain ⟨c, e1, e2, e3⟩ := h4 pos cv e
  exact ⟨c, e1, n c _ e2 e3 trivial, k c _ e2 e3 trivial⟩
mutual
/-- a key of a dict of tuples -/
def nkD : D → Option NestedKey
  | .non => some .none
  | .bl b => some (.num (if b = true then 1 else 0))
  | .int i => some (.num i)
  | .str x => some (.text x)
  | .tup xs => (nkDs xs).map .tup
  | .ref _ => none
  | .sl _ => none
def nkDs : List D → Option (List NestedKey)
  | [] => some []
  | d :: ds => (nkD d).bind fun k => (nkDs ds).map (k :: ·)
end
/-- a dict, by its entries -/
def TDx (w : World) (a : Addr) (xs : List (NestedKey × Addr × Value)) : HO := .ext fun h => ∃ o es ep, h.get? a = some o ∧ o.ExactDict ∧ o.data = .dict es ep ∧ es.toList = xs.map fun x => (⟨x.1.hash w, .ref x.2.1, x.2.2⟩ : DictEntry)
/-- an exception that is held -/
def XOb (C a : Addr) (dd : Option Addr) : HO := .ext fun h => ∃ oe vs, h.get? a = some oe ∧ oe.cls = .ref C ∧ oe.dict = dd ∧ oe.data = .fields vs
/-- a list that nobody changes -/
def Stl (K : PySem.W.Frag) (H : Hp) (a : Addr) (xs : List V) : Prop :=
  (∃ o, H a = some (.frz o (.lst xs))) ∨ ∃ (o : Obj) (its : Array Value) (n : Nat), K.lookup a = some o ∧ o.cls = .type "list" ∧ o.dict = none ∧ o.data = .seq its n ∧ its.size ≤ sizeLine ∧ Vals xs its.toList
theorem Stl.sql {K : PySem.W.Frag} {H : Hp} {a : Addr} {xs : List V} (h : Stl K H a xs) : SqL K H a xs := by
  rcases h with ⟨o, h⟩ | h
  · exact .inl (.inr ⟨o, h⟩)
  · exact .inr h
section
variable (K : PySem.W.Frag) (H : Hp) (mu : List Addr)
mutual
inductive Rp : D → V → Prop
  | non : Rp .non .non
  | bl (b : Bool) : Rp (.bl b) (.bl b)
  | int (i : Int) : Rp (.int i) (.int i)
  | str (x : Str) : Rp (.str x) (.str x)
  | tup {a : Addr} {xs : List V} {ds : List D} : SqT K H a xs → RpA ds xs → Rp (.tup ds) (.ref a)
  | ref {n : Nat} {a : Addr} : mu[n]? = some a → Rp (.ref n) (.ref a)
  | sl {a : Addr} {xs : List V} {ds : List D} : Stl K H a xs → RpA ds xs → Rp (.sl ds) (.ref a)
inductive RpA : List D → List V → Prop
  | nil : RpA [] []
  | cons {d : D} {v : V} {ds : List D} {vs : List V} : Rp d v → RpA ds vs → RpA (d :: ds) (v :: vs)
end
def RpP {κ : Type} : List (κ × D) → List (κ × V) → Prop := Paired fun (p : κ × D) (q : κ × V) => p.1 = q.1 ∧ Rp K H mu p.2 q.2
def KeyR (p : D × D) (q : NestedKey × Addr × Value) : Prop := nkD p.1 = some q.1 ∧ q.1.depth ≤ 8 ∧ Rp K H mu p.1 (.ref q.2.1) ∧ ∃ v, RelV v q.2.2 ∧ Rp K H mu p.2 v
def OR (cl : CW) (a : Addr) : O → Prop
  | .lst ds => ∃ xs, H a = some (.lst xs) ∧ RpA K H mu ds xs
  | .dct kvs => ∃ ks, H a = some (.dK ks) ∧ RpP K H mu kvs ks
  | .dtt kvs => ∃ xs, H a = some (TDx cl.w a xs) ∧ (xs.map (·.1)).Nodup ∧ kvs.length ≤ sizeLine ∧ (a == sysModules) = false ∧ Paired (KeyR K H mu) kvs xs
  | .dtz kvs => ∃ xs, (∃ o, H a = some (.frz o (TDx cl.w a xs))) ∧ (xs.map (·.1)).Nodup ∧ kvs.length ≤ sizeLine ∧ (a == sysModules) = false ∧ Paired (KeyR K H mu) kvs xs
  | .otp ds => ∃ o xs, H a = some (.frz o (.tup xs)) ∧ o.cls = .type "tuple" ∧ o.dict = none ∧ RpA K H mu ds xs
  | .ins c fs => ∃ dx gs, H a = some (.ins (cl c) dx gs) ∧ RpP K H mu fs gs
  | .xob c fs => ∃ dd, H a = some (XOb (cl c) a dd) ∧ ((fs = [] ∧ dd = none) ∨ ∃ d gs, dd = some d ∧ H d = some (.xd gs) ∧ RpP K H mu fs gs)
structure HR (cl : CW) (h : Hs) : Prop where
  len : mu.length = h.length
  nd : mu.Nodup
  obj : ∀ (n : Nat) (o : O) (a : Addr), h[n]? = some o → mu[n]? = some a → OR K H mu cl a o
  tb : ∀ p ∈ cl.T, TbO H mu p.1 p.2
def ER (env : En) (sg : L2.St) : Prop := env.length = sg.length ∧ ∀ (i : Nat) (d : D), env[i]? = some (some d) → ∃ v, sg[i]? = some (some v) ∧ Rp K H mu d v
end

/-- from H, mu to H', mu': what is not in mu stays, mu grows -/
structure Ext (H : Hp) (mu : List Addr) (H' : Hp) (mu' : List Addr) : Prop where
  frame : ∀ a o, H a = some o → a ∉ mu → isTbl o = false → H' a = some o
  tup : ∀ a xs, H a = some (.tup xs) → H' a = some (.tup xs)
  frz : ∀ a o, StO o → H a = some o → H' a = some o
  pre : mu <+: mu'
  new : ∀ a ∈ mu', a ∉ mu → ∀ o, H a = some o → isTbl o = true

theorem Ext.refl (H : Hp) (mu : List Addr) : Ext H mu H mu :=
  ⟨fun _ _ h _ _ => h, fun _ _ h => h, fun _ _ _ h => h, List.prefix_refl _, fun _ h n => absurd h n⟩
theorem Ext.trans {H H1 H2 : Hp} {mu mu1 mu2 : List Addr} (a : Ext H mu H1 mu1) (b : Ext H1 mu1 H2 mu2) : Ext H mu H2 mu2 where
  frame := fun c o e n nt => b.frame c o (a.frame c o e n nt) (fun hm => by
    have := a.new c hm n o e
    rw [nt] at this; cases this) nt
  tup := fun c xs e => b.tup c xs (a.tup c xs e)
  frz := fun c o u e => b.frz c o u (a.frz c o u e)
  pre := a.pre.trans b.pre
  new := fun c hm n o e => by
    by_cases h1 : c ∈ mu1
    · exact a.new c h1 n o e
    · cases nt : isTbl o with
      | false =>
        have := b.new c hm h1 o (a.frame c o e n nt)
        rw [nt] at this; cases this
      | true => rfl
/-- what values lean on -/
structure Mo (H : Hp) (mu : List Addr) (H' : Hp) (mu' : List Addr) : Prop where
  tup : ∀ a xs, H a = some (.tup xs) → H' a = some (.tup xs)
  frz : ∀ a o, StO o → H a = some o → H' a = some o
  pre : mu <+: mu'
theorem Ext.mo {H H' : Hp} {mu mu' : List Addr} (e : Ext H mu H' mu') : Mo H mu H' mu' := ⟨e.tup, e.frz, e.pre⟩
theorem Mo.refl (H : Hp) (mu : List Addr) : Mo H mu H mu := ⟨fun _ _ h => h, fun _ _ _ h => h, List.prefix_refl _⟩
theorem Mo.trans {H H1 H2 : Hp} {mu mu1 mu2 : List Addr} (a : Mo H mu H1 mu1) (b : Mo H1 mu1 H2 mu2) : Mo H mu H2 mu2 := ⟨fun c xs e => b.tup c xs (a.tup c xs e), fun c o u e => b.frz c o u (a.frz c o u e), a.pre.trans b.pre⟩
theorem Mo.get {H H' : Hp} {mu mu' : List Addr} (e : Mo H mu H' mu') {n : Nat} {a : Addr} (h : mu[n]? = some a) : mu'[n]? = some a := by
  obtain ⟨t, rfl⟩ := e.pre
  rw [List.getElem?_append_left (List.getElem?_eq_some_iff.mp h).1]; exact h
theorem Mo.sqt {K : PySem.W.Frag} {H H' : Hp} {mu mu' : List Addr} (e : Mo H mu H' mu') {a : Addr} {xs : List V} (h : SqT K H a xs) : SqT K H' a xs := by
  rcases h with (h | ⟨o, h⟩) | h
  · exact .inl (.inl (e.tup _ _ h))
  · exact .inl (.inr ⟨o, e.frz _ _ trivial h⟩)
  · exact .inr h
theorem Mo.stl {K : PySem.W.Frag} {H H' : Hp} {mu mu' : List Addr} (e : Mo H mu H' mu') {a : Addr} {xs : List V} (h : Stl K H a xs) : Stl K H' a xs := by
  rcases h with ⟨o, h⟩ | h
  · exact .inl ⟨o, e.frz _ _ trivial h⟩
  · exact .inr h
theorem Ext.get {H H' : Hp} {mu mu' : List Addr} (e : Ext H mu H' mu') {n : Nat} {a : Addr} (h : mu[n]? = some a) : mu'[n]? = some a := by
  obtain ⟨t, rfl⟩ := e.pre
  rw [List.getElem?_append_left (List.getElem?_eq_some_iff.mp h).1]; exact h
theorem Ext.sqt {K : PySem.W.Frag} {H H' : Hp} {mu mu' : List Addr} (e : Ext H mu H' mu') {a : Addr} {xs : List V} (h : SqT K H a xs) : SqT K H' a xs := by
  rcases h with (h | ⟨o, h⟩) | h
  · exact .inl (.inl (e.tup _ _ h))
  · exact .inl (.inr ⟨o, e.frz _ _ trivial h⟩)
  · exact .inr h

mutual
theorem Rp.mo {K : PySem.W.Frag} {H H' : Hp} {mu mu' : List Addr} (e : Mo H mu H' mu') : ∀ {d : D} {v : V}, Rp K H mu d v → Rp K H' mu' d v
  | _, _, .non => .non
  | _, _, .bl b => .bl b
  | _, _, .int i => .int i
  | _, _, .str x => .str x
  | _, _, .tup s r => .tup (e.sqt s) (RpA.mo e r)
  | _, _, .ref h => .ref (e.get h)
  | _, _, .sl s r => .sl (e.stl s) (RpA.mo e r)
theorem RpA.mo {K : PySem.W.Frag} {H H' : Hp} {mu mu' : List Addr} (e : Mo H mu H' mu') : ∀ {ds : List D} {vs : List V}, RpA K H mu ds vs → RpA K H' mu' ds vs
  | _, _, .nil => .nil
  | _, _, .cons a b => .cons (Rp.mo e a) (RpA.mo e b)
end
theorem Rp.mono {K : PySem.W.Frag} {H H' : Hp} {mu mu' : List Addr} (e : Ext H mu H' mu') {d : D} {v : V} (r : Rp K H mu d v) : Rp K H' mu' d v := r.mo e.mo
theorem RpA.mono {K : PySem.W.Frag} {H H' : Hp} {mu mu' : List Addr} (e : Ext H mu H' mu') {d : List D} {v : List V} (r : RpA K H mu d v) : RpA K H' mu' d v := r.mo e.mo
theorem RpP.mo {K : PySem.W.Frag} {H H' : Hp} {mu mu' : List Addr} (e : Mo H mu H' mu') {κ : Type} {ks : List (κ × D)} {vs : List (κ × V)} (h : RpP K H mu ks vs) : RpP K H' mu' ks vs :=
  Paired.mapP h fun _ _ z => ⟨z.1, z.2.mo e⟩
theorem RpP.mono {K : PySem.W.Frag} {H H' : Hp} {mu mu' : List Addr} (e : Ext H mu H' mu') {κ : Type} {ks : List (κ × D)} {vs : List (κ × V)} (h : RpP K H mu ks vs) : RpP K H' mu' ks vs :=
  Paired.mapP h fun _ _ z => ⟨z.1, z.2.mono e⟩
theorem ER.mo {K : PySem.W.Frag} {H H' : Hp} {mu mu' : List Addr} (e : Mo H mu H' mu') {env : En} {sg : L2.St} (h : ER K H mu env sg) : ER K H' mu' env sg :=
  ⟨h.1, fun i d q => let ⟨v, a, b⟩ := h.2 i d q; ⟨v, a, b.mo e⟩⟩
theorem ER.mono {K : PySem.W.Frag} {H H' : Hp} {mu mu' : List Addr} (e : Ext H mu H' mu') {env : En} {sg : L2.St} (h : ER K H mu env sg) : ER K H' mu' env sg :=
  ⟨h.1, fun i d q => let ⟨v, a, b⟩ := h.2 i d q; ⟨v, a, b.mono e⟩⟩
theorem RpA.length {K : PySem.W.Frag} {H : Hp} {mu : List Addr} : ∀ {ds : List D} {vs : List V}, RpA K H mu ds vs → ds.length = vs.length
  | _, _, .nil => rfl
  | _, _, .cons _ b => by simp [RpA.length b]
theorem RpA.get {K : PySem.W.Frag} {H : Hp} {mu : List Addr} : ∀ {ds : List D} {vs : List V} {i : Nat} {d : D}, RpA K H mu ds vs → ds[i]? = some d → ∃ v, vs[i]? = some v ∧ Rp K H mu d v
  | _, _, _, _, .nil, h => by simp at h
  | _, _, 0, _, .cons a b, h => by simp at h; subst h; exact ⟨_, rfl, a⟩
  | _, _, i + 1, d, .cons a b, h => by
    obtain ⟨v, h1, h2⟩ := RpA.get (i := i) (d := d) b (by simpa using h)
    exact ⟨v, by simpa using h1, h2⟩
theorem RpA.append {K : PySem.W.Frag} {H : Hp} {mu : List Addr} : ∀ {ds es : List D} {vs us : List V}, RpA K H mu ds vs → RpA K H mu es us → RpA K H mu (ds ++ es) (vs ++ us)
  | _, _, _, _, .nil, h => h
  | _, _, _, _, .cons a b, h => .cons a (RpA.append b h)
theorem RpA.one {K : PySem.W.Frag} {H : Hp} {mu : List Addr} {d : D} {v : V} (h : Rp K H mu d v) : RpA K H mu [d] [v] := .cons h .nil
theorem RpA.set {K : PySem.W.Frag} {H : Hp} {mu : List Addr} {d : D} {v : V} (r : Rp K H mu d v) : ∀ {ds : List D} {vs : List V} (i : Nat), RpA K H mu ds vs → RpA K H mu (ds.set i d) (vs.set i v)
  | _, _, _, .nil => .nil
  | _, _, 0, .cons _ b => .cons r b
  | _, _, i + 1, .cons a b => .cons a (RpA.set r i b)
theorem RpA.take {K : PySem.W.Frag} {H : Hp} {mu : List Addr} : ∀ {ds : List D} {vs : List V} (n : Nat), RpA K H mu ds vs → RpA K H mu (ds.take n) (vs.take n)
  | _, _, 0, _ => by simp; exact .nil
  | _, _, _ + 1, .nil => .nil
  | _, _, n + 1, .cons a b => .cons a (RpA.take n b)
theorem RpA.drop {K : PySem.W.Frag} {H : Hp} {mu : List Addr} : ∀ {ds : List D} {vs : List V} (n : Nat), RpA K H mu ds vs → RpA K H mu (ds.drop n) (vs.drop n)
  | _, _, 0, h => h
  | _, _, _ + 1, .nil => .nil
  | _, _, n + 1, .cons _ b => RpA.drop n b
theorem RpA.dropLast {K : PySem.W.Frag} {H : Hp} {mu : List Addr} {ds : List D} {vs : List V} (h : RpA K H mu ds vs) : RpA K H mu ds.dropLast vs.dropLast := by
  rw [List.dropLast_eq_take, List.dropLast_eq_take, ← h.length]; exact h.take _
theorem RpA.nil_iff {K : PySem.W.Frag} {H : Hp} {mu : List Addr} {ds : List D} {vs : List V} (h : RpA K H mu ds vs) : ds = [] ↔ vs = [] := by
  cases h <;> simp
theorem RpA.flat {K : PySem.W.Frag} {H : Hp} {mu : List Addr} {ds : List D} {vs : List V} (h : RpA K H mu ds vs) : ∀ n : Nat, RpA K H mu (List.replicate n ds).flatten (List.replicate n vs).flatten
  | 0 => .nil
  | n + 1 => by rw [List.replicate_succ, List.replicate_succ, List.flatten_cons, List.flatten_cons]; exact h.append (h.flat n)

section
variable {K : PySem.W.Frag} {cl : CW} {H H' : Hp} {mu mu' : List Addr} {h : Hs}
/-- what is kept of an object: itself, or the written part's list -/
theorem OR.mo (e : Mo H mu H' mu') {a : Addr} {o : O} (k : ∀ u, H a = some u → H' a = some u) (r : OR K H mu cl a o) : OR K H' mu' cl a o := by
  cases o with
  | lst ds => obtain ⟨xs, h1, h2⟩ := r; exact ⟨xs, k _ h1, h2.mo e⟩
  | dct ks => obtain ⟨xs, h1, h2⟩ := r; exact ⟨xs, k _ h1, h2.mo e⟩
  | dtt ks => obtain ⟨xs, h1, h2, h3, h4, h5⟩ := r; exact ⟨xs, k _ h1, h2, h3, h4, Paired.mapP h5 fun _ _ ⟨z1, z2, z3, v, z4, z5⟩ => ⟨z1, z2, z3.mo e, v, z4, z5.mo e⟩⟩
  | dtz ks => obtain ⟨xs, ⟨o, h1⟩, h2, h3, h4, h5⟩ := r; exact ⟨xs, ⟨o, k _ h1⟩, h2, h3, h4, Paired.mapP h5 fun _ _ ⟨z1, z2, z3, v, z4, z5⟩ => ⟨z1, z2, z3.mo e, v, z4, z5.mo e⟩⟩
  | otp ds => obtain ⟨o, xs, h1, h2, h3, h4⟩ := r; exact ⟨o, xs, k _ h1, h2, h3, h4.mo e⟩
  | ins c fs => obtain ⟨dx, gs, h1, h2⟩ := r; exact ⟨dx, gs, k _ h1, h2.mo e⟩
  | xob c fs =>
    obtain ⟨dd, h1, h2⟩ := r
    refine ⟨dd, k _ h1, ?_⟩
    rcases h2 with z | ⟨d, gs, z1, z2, z3⟩
    · exact .inl z
    · exact .inr ⟨d, gs, z1, e.frz _ _ trivial z2, z3.mo e⟩
theorem OR.mono (e : Ext H mu H' mu') {a : Addr} {o : O} (k : ∀ u, H a = some u → H' a = some u) (r : OR K H mu cl a o) : OR K H' mu' cl a o := r.mo e.mo k
theorem HR.at (r : HR K H mu cl h) {n : Nat} {o : O} (e : h[n]? = some o) : ∃ a, mu[n]? = some a ∧ OR K H mu cl a o := by
  have hn : n < h.length := (List.getElem?_eq_some_iff.mp e).1
  obtain ⟨a, ha⟩ : ∃ a, mu[n]? = some a := ⟨mu[n]'(by rw [r.len]; exact hn), by simp [r.len, hn]⟩
  exact ⟨a, ha, r.obj n o a e ha⟩
/-- a new thing that is no object of h: a tuple, an iterator's pair -/
theorem Ext.tupled {p : Addr} {o : HO} (hp : H p = none) : Ext H mu (upd H p o) mu :=
  ⟨fun a u e _ _ => by rw [upd_ne (ne_of_none e hp)]; exact e, fun a xs e => by rw [upd_ne (ne_of_none e hp)]; exact e, fun a u w e => by rw [upd_ne (ne_of_none e hp)]; exact e, List.prefix_refl _, fun _ h n => absurd h n⟩
theorem HR.tupled {p : Addr} {o : HO} (hp : H p = none) (r : HR K H mu cl h) : HR K (upd H p o) mu cl h :=
  ⟨r.len, r.nd, fun n u a e1 e2 => (r.obj n u a e1 e2).mono (Ext.tupled hp) fun w q => by rw [upd_ne (ne_of_none q hp)]; exact q, fun t ht => (r.tb t ht).keep (fun a u _ e _ => by rw [upd_ne (ne_of_none e hp)]; exact e) fun a u n _ _ => n⟩
theorem Ext.allocd {p : Addr} {o : HO} (hp : H p = none) : Ext H mu (upd H p o) (mu ++ [p]) :=
  ⟨(Ext.tupled (mu := mu) hp).frame, (Ext.tupled (mu := mu) hp).tup, (Ext.tupled (mu := mu) hp).frz, List.prefix_append _ _, fun a ha n o e => by
    rcases List.mem_append.mp ha with q | q
    · exact absurd q n
    · have : a = p := by simpa using q
      rw [this, hp] at e; cases e⟩
theorem OR.some {a : Addr} {o : O} (r : OR K H mu cl a o) : ∃ u, H a = some u := by
  cases o with
  | lst ds => obtain ⟨xs, h1, h2⟩ := r; exact ⟨_, h1⟩
  | dct ks => obtain ⟨xs, h1, h2⟩ := r; exact ⟨_, h1⟩
  | dtt ks => obtain ⟨xs, h1, h2⟩ := r; exact ⟨_, h1⟩
  | dtz ks => obtain ⟨xs, ⟨o, h1⟩, h2⟩ := r; exact ⟨_, h1⟩
  | otp ds => obtain ⟨o, xs, h1, h2⟩ := r; exact ⟨_, h1⟩
  | ins c fs => obtain ⟨dx, gs, h1, h2⟩ := r; exact ⟨_, h1⟩
  | xob c fs => obtain ⟨dx, h1, h2⟩ := r; exact ⟨_, h1⟩
theorem HR.mem_some (r : HR K H mu cl h) {a : Addr} (ha : a ∈ mu) : ∃ u, H a = some u := by
  obtain ⟨n, hn, e⟩ := List.getElem_of_mem ha
  have hn' : n < h.length := by rw [← r.len]; exact hn
  exact (r.obj n h[n] a (by simp [hn']) (by simp [hn, e])).some
theorem HR.fresh (r : HR K H mu cl h) {p : Addr} (hp : H p = none) : p ∉ mu := fun hm => by
  obtain ⟨u, e⟩ := r.mem_some hm
  rw [hp] at e; cases e
/-- an object that stands apart becomes one of h -/
theorem HR.joined {p : Addr} {o : HO} {u : O} (hm : p ∉ mu) (ht : ∀ xs, H p ≠ some (.tup xs)) (hf : ∀ o, StJ o → H p ≠ some o) (r : HR K H mu cl h) (new : OR K (upd H p o) (mu ++ [p]) cl p u) : HR K (upd H p o) (mu ++ [p]) cl (h ++ [u]) where
  len := by simp [r.len]
  nd := by
    rw [List.nodup_append]
    refine ⟨r.nd, by simp, fun a ha b hb => ?_⟩
    have : b = p := by simpa using hb
    subst this
    intro q; subst q; exact hm ha
  tb := fun t ht => (r.tb t ht).keep (fun a v _ e te => by
    have : a ≠ p := fun z => by subst z; exact hf _ te.j e
    rw [upd_ne this]; exact e) fun a v na e te hm' => by
    rcases List.mem_append.mp hm' with z | z
    · exact na z
    · have : a = p := by simpa using z
      subst this
      exact hf _ te.j e
  obj := fun n v a e1 e2 => by
    have M : Mo H mu (upd H p o) (mu ++ [p]) := ⟨fun a xs e => by
      have : a ≠ p := fun z => by subst z; exact ht _ e
      rw [upd_ne this]; exact e, fun a x w e => by
      have : a ≠ p := fun z => by subst z; exact hf _ w.j e
      rw [upd_ne this]; exact e, List.prefix_append _ _⟩
    by_cases hn : n < h.length
    · rw [List.getElem?_append_left hn] at e1
      rw [List.getElem?_append_left (by rw [r.len]; exact hn)] at e2
      have ne : a ≠ p := fun z => by subst z; exact hm (List.mem_of_getElem? e2)
      exact (r.obj n v a e1 e2).mo M fun w q => by rw [upd_ne ne]; exact q
    · have hn' : h.length ≤ n := Nat.le_of_not_lt hn
      rw [List.getElem?_append_right hn'] at e1
      rw [List.getElem?_append_right (by rw [r.len]; exact hn')] at e2
      have e0 : n - h.length = 0 := by
        cases q : n - h.length with
        | zero => rfl
        | succ k => rw [q] at e1; simp at e1
      rw [e0] at e1
      rw [r.len, e0] at e2
      simp at e1 e2
      subst e1; subst e2
      exact new
/-- a new object of h -/
theorem HR.allocd {p : Addr} {o : HO} {u : O} (hp : H p = none) (r : HR K H mu cl h) (new : OR K (upd H p o) (mu ++ [p]) cl p u) : HR K (upd H p o) (mu ++ [p]) cl (h ++ [u]) :=
  r.joined (r.fresh hp) (fun _ z => by rw [hp] at z; cases z) (fun _ _ z => by rw [hp] at z; cases z) new
/-- .. where p was new for H₀ -/
theorem Ext.joined {H0 : Hp} {mu0 : List Addr} {p : Addr} {o : HO} (e : Ext H0 mu0 H mu) (hp : H0 p = none) : Ext H0 mu0 (upd H p o) (mu ++ [p]) where
  frame := fun a u q n nt => by
    rw [upd_ne (ne_of_none q hp)]; exact e.frame a u q n nt
  tup := fun a u q => by
    rw [upd_ne (ne_of_none q hp)]; exact e.tup a u q
  frz := fun a u w q => by
    rw [upd_ne (ne_of_none q hp)]; exact e.frz a u w q
  pre := e.pre.trans (List.prefix_append _ _)
  new := fun a ha n o e1 => by
    rcases List.mem_append.mp ha with q | q
    · exact e.new a q n o e1
    · have : a = p := by simpa using q
      rw [this, hp] at e1; cases e1
/-- an object of h is written -/
theorem Ext.written {n : Nat} {a : Addr} {o o' : HO} (ha : mu[n]? = some a) (he : H a = some o) (nt : ∀ xs, o ≠ .tup xs) (nf : ¬ StW o) : Ext H mu (upd H a o') mu where
  frame := fun b u e hn _ => by
    have hb : b ≠ a := fun q => by subst q; exact hn (List.mem_of_getElem? ha)
    rw [upd_ne hb]; exact e
  tup := fun b xs e => by
    have hb : b ≠ a := fun q => by subst q; rw [he] at e; exact nt _ (Option.some.inj e)
    rw [upd_ne hb]; exact e
  frz := fun b x u e => by
    have hb : b ≠ a := fun q => by subst q; rw [he] at e; exact nf (by rw [Option.some.inj e]; exact u.w)
    rw [upd_ne hb]; exact e
  pre := List.prefix_refl _
  new := fun _ h n => absurd h n
theorem HR.written {n : Nat} {a : Addr} {o o' : HO} {u' : O} (r : HR K H mu cl h) (ha : mu[n]? = some a) (he : H a = some o) (nt : ∀ xs, o ≠ .tup xs) (nf : ¬ StW o) (new : OR K (upd H a o') mu cl a u') :
    HR K (upd H a o') mu cl (h.set n u') where
  len := by simp [r.len]
  nd := r.nd
  tb := fun t ht => (r.tb t ht).keep (fun b v nb e _ => by
    have hb : b ≠ a := fun q => by subst q; exact nb (List.mem_of_getElem? ha)
    rw [upd_ne hb]; exact e) fun _ _ nb _ _ => nb
  obj := fun m v b e1 e2 => by
    by_cases hm : m = n
    · subst hm
      rw [ha] at e2; cases e2
      have hlt : m < h.length := by have := (List.getElem?_eq_some_iff.mp e1).1; simpa using this
      rw [List.getElem?_set_self hlt] at e1
      cases e1
      exact new
    · rw [List.getElem?_set_ne (Ne.symm hm)] at e1
      refine (r.obj m v b e1 e2).mono (Ext.written ha he nt nf) fun w q => ?_
      have hb : b ≠ a := fun z => by
        subst z
        obtain ⟨h1, g1⟩ := List.getElem?_eq_some_iff.mp e2
        obtain ⟨h2, g2⟩ := List.getElem?_eq_some_iff.mp ha
        exact hm ((List.getElem_inj r.nd).mp (g1.trans g2.symm))
      rw [upd_ne hb]; exact q
end
end DS

set_option Elab.async false
set_option linter.all false
set_option maxRecDepth 100000
set_option maxHeartbeats 4000000
/-! DSB: readings, expressions. -/
namespace DS
open PySem PySem.Spec PyProof.Rows L2

abbrev ME := En → Hs → R D
abbrev MA := En → Hs → R (List D)
abbrev MT := En → Hs → R Bool
abbrev Sg := List (Option V)

/-- how an exception lies -/
def XR (K : PySem.W.Frag) (cl : CW) (H : Hp) (mu : List Addr) (x : Ex) (c : Value) (dd : Option Addr) : Prop :=
  c = .ref (cl x.cls) ∧ ((x.fs = [] ∧ dd = none) ∨ ∃ d gs, dd = some d ∧ d ∉ mu ∧ H d = some (.xd gs) ∧ RpP K H mu x.fs gs)

structure Rel (K : PySem.W.Frag) (cl : CW) (H : Hp) (mu : List Addr) (h : Hs) (env : En) (sg : Sg) : Prop where
  hr : HR K H mu cl h
  er : ER K H mu env sg

def Post {α β : Type} (rl : Hp → List Addr → α → β → Prop) (K : PySem.W.Frag) (cl : CW) (W : WX) (sg : Sg) (H : Hp) (mu : List Addr) (r : R α) (Q : β → Hp → Prop) : Prop :=
  match r with
  | .ok a h' => ∀ b H' mu', Ext H mu H' mu' → HR K H' mu' cl h' → rl H' mu' a b → Q b H'
  | .exc x h' => ∀ c dd H' mu', Ext H mu H' mu' → HR K H' mu' cl h' → XR K cl H' mu' x c dd → W c dd sg H'
  | .bad => False

section
variable {α β γ δ : Type} {rl : Hp → List Addr → α → β → Prop} {rl' : Hp → List Addr → γ → δ → Prop} {K : PySem.W.Frag} {cl : CW} {W : WX} {sg : Sg} {H H1 : Hp} {mu mu1 : List Addr} {r : R α}
theorem Post.ext {Q : β → Hp → Prop} (e : Ext H mu H1 mu1) (p : Post rl K cl W sg H mu r Q) : Post rl K cl W sg H1 mu1 r Q := by
  cases r with
  | ok a h' => exact fun b H' mu' e' hr rb => p b H' mu' (e.trans e') hr rb
  | exc x h' => exact fun c dd H' mu' e' hr rb => p c dd H' mu' (e.trans e') hr rb
  | bad => exact p
theorem Post.mono {Q Q' : β → Hp → Prop} (hq : ∀ b H, Q b H → Q' b H) (p : Post rl K cl W sg H mu r Q) : Post rl K cl W sg H mu r Q' := by
  cases r with
  | ok a h' => exact fun b H' mu' e' hr rb => hq _ _ (p b H' mu' e' hr rb)
  | exc x h' => exact p
  | bad => exact p
theorem Post.bind {f : α → Hs → R γ} {Q : δ → Hp → Prop} (p : Post rl' K cl W sg H mu (r.bind f) Q) :
    Post rl K cl W sg H mu r (fun b H1 => ∃ mu1 a h1, Ext H mu H1 mu1 ∧ HR K H1 mu1 cl h1 ∧ rl H1 mu1 a b ∧ Post rl' K cl W sg H1 mu1 (f a h1) Q) := by
  cases r with
  | ok a h' => exact fun b H' mu' e' hr rb => ⟨mu', a, h', e', hr, rb, Post.ext e' p⟩
  | exc x h' => exact p
  | bad => exact p
end

abbrev rlB : Hp → List Addr → Bool → Bool → Prop := fun _ _ a b => a = b

section
variable (K : PySem.W.Frag) (cl : CW) (W : WX)
def tE (m : ME) : TE := fun sg H Q => ∃ mu env h, Rel K cl H mu h env sg ∧ Post (Rp K) K cl W sg H mu (m env h) Q
def tA (m : MA) : TA := fun sg H Q => ∃ mu env h, Rel K cl H mu h env sg ∧ Post (RpA K) K cl W sg H mu (m env h) Q
def tT (m : MT) : TT := fun sg H Q => ∃ mu env h, Rel K cl H mu h env sg ∧ Post rlB K cl W sg H mu (m env h) Q
end
abbrev SE (X : Cx) (cl : CW) (W : WX) (e : Expr) (m : ME) : Prop := PE X e (tE X.K cl W m)
abbrev SA (X : Cx) (cl : CW) (W : WX) (es : List Expr) (m : MA) : Prop := PA X es (tA X.K cl W m)
abbrev ST (X : Cx) (cl : CW) (W : WX) (e : Expr) (m : MT) : Prop := PT X e (tT X.K cl W m)
abbrev SW (X : Cx) (cl : CW) (W : WX) (e : Expr) (m : MT) : Prop := PW X e (tT X.K cl W m)

theorem PE.imp {X : Cx} {e : Expr} {t t' : TE} (h : PE X e t) (hi : ∀ sg H Q, t' sg H Q → t sg H Q) : PE X e t' := ⟨fun pins s σ H Q I q => h.run pins s σ H Q I (hi _ _ _ q)⟩
theorem PA.imp {X : Cx} {e : List Expr} {t t' : TA} (h : PA X e t) (hi : ∀ sg H Q, t' sg H Q → t sg H Q) : PA X e t' := ⟨fun ps pins s σ H Q I q => h.run ps pins s σ H Q I (hi _ _ _ q)⟩
theorem PT.imp {X : Cx} {e : Expr} {t t' : TT} (h : PT X e t) (hi : ∀ sg H Q, t' sg H Q → t sg H Q) : PT X e t' := ⟨fun pins s σ H Q I q => h.run pins s σ H Q I (hi _ _ _ q)⟩
theorem PW.imp {X : Cx} {e : Expr} {t t' : TT} (h : PW X e t) (hi : ∀ sg H Q, t' sg H Q → t sg H Q) : PW X e t' := ⟨fun wh pins s σ H Q I q => h.run wh pins s σ H Q I (hi _ _ _ q)⟩

/-! ### combinators -/
def eVar (i : Nat) : ME := fun env h => match env[i]? with | some (some d) => .ok d h | _ => .bad
def eC (d : D) : ME := fun _ h => .ok d h
/-- an operation by values -/
abbrev O1 := D → Hs → Option (D × Hs)
abbrev O2 := D → D → Hs → Option (D × Hs)
abbrev ON := List D → Hs → Option (D × Hs)
def lft : Option (D × Hs) → R D
  | some p => .ok p.1 p.2
  | none => .bad
@[simp] theorem lft_some (d : D) (h : Hs) : lft (some (d, h)) = .ok d h := rfl
@[simp] theorem lft_none : lft none = .bad := rfl
def eOp1 (g : O1) (a : ME) : ME := fun env h => (a env h).bind fun x h1 => lft (g x h1)
def eOp2 (g : O2) (a b : ME) : ME := fun env h => (a env h).bind fun x h1 => (b env h1).bind fun y h2 => lft (g x y h2)
def eOpN (g : ON) (a : MA) : ME := fun env h => (a env h).bind fun xs h1 => lft (g xs h1)
def aNil : MA := fun _ h => .ok [] h
def aCons (a : ME) (b : MA) : MA := fun env h => (a env h).bind fun x h1 => (b env h1).bind fun xs h2 => .ok (x :: xs) h2
def seqOf : D → Hs → Option (List D)
  | .tup xs, _ => some xs
  | .sl xs, _ => some xs
  | .ref n, h => match h[n]? with
    | some (.lst xs) => some xs
    | _ => none
  | _, _ => none
def aStar (a : ME) (b : MA) : MA := fun env h => (a env h).bind fun x h1 => match seqOf x h1 with
  | some xs => (b env h1).bind fun ys h2 => .ok (xs ++ ys) h2
  | none => .bad
def vTup : ON := fun ds h => if ds.length ≤ sizeLine then some (.tup ds, h) else none
def vLst : ON := fun ds h => if ds.length ≤ sizeLine then some (.ref h.length, h ++ [.lst ds]) else none
def tsB (a : ME) : MT := fun env h => (a env h).bind fun x h1 => match x with | .bl b => .ok b h1 | _ => .bad
def tNotM (a : MT) : MT := fun env h => (a env h).bind fun x h1 => .ok (!x) h1
def tAndM (a b : MT) : MT := fun env h => (a env h).bind fun x h1 => if x = true then b env h1 else .ok false h1
def tOrM (a b : MT) : MT := fun env h => (a env h).bind fun x h1 => if x = true then .ok true h1 else b env h1
def eAndM (a b : ME) : ME := fun env h => (a env h).bind fun x h1 => match x with | .bl true => b env h1 | .bl false => .ok (.bl false) h1 | _ => .bad
def eOrM (a b : ME) : ME := fun env h => (a env h).bind fun x h1 => match x with | .bl false => b env h1 | .bl true => .ok (.bl true) h1 | _ => .bad
def eNotM (a : ME) : ME := fun env h => (a env h).bind fun x h1 => match x with | .bl b => .ok (.bl (!b)) h1 | _ => .bad
def eIfM (t : MT) (a b : ME) : ME := fun env h => (t env h).bind fun x h1 => if x = true then a env h1 else b env h1

/-- what an operation by values leaves -/
def PostO (K : PySem.W.Frag) (cl : CW) (H : Hp) (mu : List Addr) (r : Option (D × Hs)) (Q : VK) : Prop :=
  match r with
  | some p => ∀ v H' mu', Ext H mu H' mu' → HR K H' mu' cl p.2 → Rp K H' mu' p.1 v → Q v H'
  | none => False
theorem PostO.of {K : PySem.W.Frag} {cl : CW} {W : WX} {sg : Sg} {H : Hp} {mu : List Addr} {r : Option (D × Hs)} {Q : VK} (p : Post (Rp K) K cl W sg H mu (lft r) Q) : PostO K cl H mu r Q := by
  cases r with
  | some q => exact p
  | none => exact p
def r1 (K : PySem.W.Frag) (cl : CW) (g : O1) : V → Hp → VK → Prop := fun x H Q => ∃ mu h d, HR K H mu cl h ∧ Rp K H mu d x ∧ PostO K cl H mu (g d h) Q
def r2 (K : PySem.W.Frag) (cl : CW) (g : O2) : R2 := fun x y H Q => ∃ mu h d e, HR K H mu cl h ∧ Rp K H mu d x ∧ Rp K H mu e y ∧ PostO K cl H mu (g d e h) Q
def rN (K : PySem.W.Frag) (cl : CW) (g : ON) : List V → Hp → VK → Prop := fun xs H Q => ∃ mu h ds, HR K H mu cl h ∧ RpA K H mu ds xs ∧ PostO K cl H mu (g ds h) Q

section
variable {X : Cx} {cl : CW} {W : WX} {a b c e : Expr} {es : List Expr} {ma mb : ME} {mt mu' : MT} {ms : MA} {pos : Pos}

/-! ### names and constants -/
theorem se_var {i : Nat} {x : Str} (hN : X.N[i]? = some x := by rfl) (hv : Vis X.env.scope x := by first | exact Or.inl rfl | exact Or.inr (Or.inl rfl) | exact Or.inr (Or.inr rfl)) (hd : (x == ("__debug__" : Str)) = false := by decide)
    (hcd : (x == ("__classdict__" : Str)) = false := by decide) : SE X cl W (.Name x pos) (eVar i) :=
  PE.imp (pe_var hN hv hd hcd) fun sg H Q ⟨mu, env, h, rel, p⟩ => by
    unfold eVar at p
    cases q : env[i]? with
    | none => rw [q] at p; exact p.elim
    | some o =>
      cases o with
      | none => rw [q] at p; exact p.elim
      | some d =>
        rw [q] at p
        obtain ⟨v, hv, rv⟩ := rel.er.2 i d q
        exact ⟨v, hv, p v H mu (Ext.refl _ _) rel.hr rv⟩
theorem se_c {t : V} {d : D} (h : PE X e (tC t)) (hd : ∀ H mu, Rp X.K H mu d t) : SE X cl W e (eC d) :=
  PE.imp h fun sg H Q ⟨mu, env, h, rel, p⟩ => p _ _ _ (Ext.refl _ _) rel.hr (hd _ _)
theorem se_int {i j} : SE X cl W (.Constant (.int i) j pos) (eC (.int i)) := se_c pe_int fun _ _ => .int i
theorem se_bl {i j} : SE X cl W (.Constant (.bool i) j pos) (eC (.bl i)) := se_c pe_bl fun _ _ => .bl i
theorem se_non {j} : SE X cl W (.Constant .none j pos) (eC .non) := se_c pe_non fun _ _ => .non
theorem se_str {i j} : SE X cl W (.Constant (.str i) j pos) (eC (.str i)) := se_c pe_str fun _ _ => .str i
/-- a module's constant -/
def GC (K : PySem.W.Frag) (mg : Str → Option Value) (x : Str) (d : D) : Prop := ∃ v u, mg x = some u ∧ RelV v u ∧ ∀ H mu, Rp K H mu d v
theorem se_glob {x : Str} {d : D} (hc : GC X.K X.mg x d) (hg : Gl X x := by rfl) (hd : (x == ("__debug__" : Str)) = false := by decide) : SE X cl W (.Name x pos) (eC d) := by
  obtain ⟨v, u, hm, r, hr⟩ := hc
  exact se_c (pe_glob hg hm r hd) hr

/-! ### operations -/
theorem se_op1 {op : UnaryOp} {g : O1} (ho : UnR X (unaryOp op) (r1 X.K cl g)) (ha : SE X cl W a ma) : SE X cl W (.UnaryOp op a pos) (eOp1 g ma) :=
  PE.imp (pe_un ho ha) fun sg H Q ⟨mu, env, h, rel, p⟩ => ⟨mu, env, h, rel, (Post.bind p).mono fun b H1 ⟨mu1, d, h1, e, hr, rb, p1⟩ => ⟨mu1, h1, d, hr, rb, .of p1⟩⟩
theorem step2 {g : O2} : ∀ (sg : Sg) (H : Hp) (Q : VK), tE X.K cl W (eOp2 g ma mb) sg H Q → tOp (r2 X.K cl g) (tE X.K cl W ma) (tE X.K cl W mb) sg H Q :=
  fun sg H Q ⟨mu, env, h, rel, p⟩ => ⟨mu, env, h, rel, (Post.bind p).mono fun b H1 ⟨mu1, d, h1, e, hr, rb, p1⟩ =>
    ⟨mu1, env, h1, ⟨hr, rel.er.mono e⟩, (Post.bind p1).mono fun b2 H2 ⟨mu2, d2, h2, e2, hr2, rb2, p2⟩ => ⟨mu2, h2, d, d2, hr2, rb.mono e2, rb2, .of p2⟩⟩⟩
theorem se_op2 {op : Operator} {g : O2} (ho : OpR X (binaryOp op) (r2 X.K cl g)) (ha : SE X cl W a ma) (hb : SE X cl W b mb) : SE X cl W (.BinOp a op b pos) (eOp2 g ma mb) := PE.imp (pe_op ho ha hb) step2
theorem se_cmp {op : CmpOp} {g : O2} (ho : OpR X (compareOp op) (r2 X.K cl g)) (ha : SE X cl W a ma) (hb : SE X cl W b mb) (hm : behindInMarks op b = false := by first | exact nomark _ | rfl) : SE X cl W (.Compare a [op] [b] pos) (eOp2 g ma mb) :=
  PE.imp (pe_cmpR ho ha hb hm) step2
theorem se_ix {g : O2} (ho : IxR X (r2 X.K cl g)) (ha : SE X cl W a ma) (hb : SE X cl W b mb) (hs : PlainIx b := by exact fun _ _ => rfl) : SE X cl W (.Subscript a b pos) (eOp2 g ma mb) := PE.imp (pe_ix ho ha hb hs) step2

/-! ### argument lists -/
theorem sa_nil : SA X cl W [] aNil := PA.imp pa_nil fun sg H Q ⟨mu, env, h, rel, p⟩ => p _ _ _ (Ext.refl _ _) rel.hr .nil
theorem sa_cons (ha : SE X cl W e ma) (hr : SA X cl W es ms) (hs : starEach (e :: es) X.env = (false, eval e X.env) :: starEach es X.env := by rfl) : SA X cl W (e :: es) (aCons ma ms) :=
  PA.imp (pa_cons ha hr hs) fun sg H Q ⟨mu, env, h, rel, p⟩ => ⟨mu, env, h, rel, (Post.bind p).mono fun b H1 ⟨mu1, d, h1, e, hr, rb, p1⟩ =>
    ⟨mu1, env, h1, ⟨hr, rel.er.mono e⟩, (Post.bind p1).mono fun b2 H2 ⟨mu2, d2, h2, e2, hr2, rb2, p2⟩ => p2 _ _ _ (Ext.refl _ _) hr2 (.cons (rb.mono e2) rb2)⟩⟩
theorem seqOf_ok {K : PySem.W.Frag} {H : Hp} {mu : List Addr} {h : Hs} {d : D} {v : V} {xs : List D} (hr : HR K H mu cl h) (r : Rp K H mu d v) (e : seqOf d h = some xs) :
    ∃ a ys, v = .ref a ∧ RpA K H mu xs ys ∧ ((SqT K H a ys ∧ d = .tup xs) ∨ SqL K H a ys) := by
  cases r with
  | tup s ra => cases e; exact ⟨_, _, rfl, ra, .inl ⟨s, rfl⟩⟩
  | sl s ra => cases e; exact ⟨_, _, rfl, ra, .inr s.sql⟩
  | @ref n a hn =>
    unfold seqOf at e
    simp only at e
    split at e
    · rename_i ys q
      cases e
      obtain ⟨a', ha', xs', hx, rx⟩ := hr.at q
      rw [hn] at ha'; cases ha'
      exact ⟨_, xs', rfl, rx, .inr (.inl (.inl hx))⟩
    · cases e
  | non => cases e
  | bl _ => cases e
  | int _ => cases e
  | str _ => cases e
theorem sa_star {p : Pos} (ha : SE X cl W e ma) (hr : SA X cl W es ms) (hs : starEach (.Starred e p :: es) X.env = (true, eval e X.env) :: starEach es X.env := by rfl) : SA X cl W (.Starred e p :: es) (aStar ma ms) :=
  PA.imp (StX.pa_star ha hr hs) fun sg H Q ⟨mu, env, h, rel, p⟩ => ⟨mu, env, h, rel, (Post.bind p).mono fun b H1 ⟨mu1, d, h1, e, hr, rb, p1⟩ => by
    cases q : seqOf d h1 with
    | none => rw [q] at p1; exact p1.elim
    | some xs =>
      rw [q] at p1
      obtain ⟨a, ys, rfl, ra, hh⟩ := seqOf_ok hr rb q
      refine ⟨a, ys, rfl, ?_, mu1, env, h1, ⟨hr, rel.er.mono e⟩, (Post.bind p1).mono fun b2 H2 ⟨mu2, d2, h2, e2, hr2, rb2, p2⟩ => p2 _ _ _ (Ext.refl _ _) hr2 ((ra.mono e2).append rb2)⟩
      rcases hh with ⟨z, _⟩ | z
      · exact .inl z
      · exact .inr z⟩
/-- a tuple, a list of written things -/
theorem se_tup {x1} (h : SA X cl W es ms) : SE X cl W (.Tuple es x1 pos) (eOpN vTup ms) :=
  PE.imp (pe_tup h) fun sg H Q ⟨mu, env, h, rel, p⟩ => ⟨mu, env, h, rel, (Post.bind p).mono fun b H1 ⟨mu1, d, h1, e, hr, rb, p1⟩ => by
    have p1 := PostO.of p1
    unfold vTup at p1
    split at p1
    · rename_i hz
      refine ⟨by rw [← rb.length]; exact hz, fun q hq => ?_⟩
      exact p1 _ _ _ (Ext.tupled hq) (hr.tupled hq) (.tup (.inl (.inl upd_same)) (rb.mono (Ext.tupled hq)))
    · exact p1.elim⟩
theorem se_lst (h : SA X cl W es ms) : SE X cl W (.List es pos) (eOpN vLst ms) :=
  PE.imp (pe_lst h) fun sg H Q ⟨mu, env, h, rel, p⟩ => ⟨mu, env, h, rel, (Post.bind p).mono fun b H1 ⟨mu1, d, h1, e, hr, rb, p1⟩ => by
    have p1 := PostO.of p1
    unfold vLst at p1
    split at p1
    · rename_i hz
      refine ⟨by rw [← rb.length]; exact hz, fun q hq => ?_⟩
      refine p1 _ _ _ (Ext.allocd hq) (hr.allocd hq ⟨_, upd_same, rb.mono (Ext.allocd hq)⟩) (.ref ?_)
      rw [← hr.len]; simp
    · exact p1.elim⟩

/-! ### tests -/
theorem st_val (h : SE X cl W e ma) (he : ∀ whole, isTrue e X.env whole = (do let v ← whole; standAt e.pos; holding [v] (truthy v)) := by intro _; rfl) : ST X cl W e (tsB ma) :=
  PT.imp (pt_val h he) fun sg H Q ⟨mu, env, h, rel, p⟩ => ⟨mu, env, h, rel, (Post.bind p).mono fun b H1 ⟨mu1, d, h1, e, hr, rb, p1⟩ => by
    cases rb with
    | bl b => exact ⟨b, rfl, p1 _ _ _ (Ext.refl _ _) hr rfl⟩
    | _ => exact p1.elim⟩
theorem stepB {t : TE} (hi : ∀ (sg : Sg) (H : Hp) (Q : VK), tE X.K cl W ma sg H Q → t sg H Q) : ∀ (sg : Sg) (H : Hp) (Q : Bool → Hp → Prop), tT X.K cl W (tsB ma) sg H Q → tTest t sg H Q :=
  fun sg H Q ⟨mu, env, h, rel, p⟩ => hi _ _ _ ⟨mu, env, h, rel, (Post.bind p).mono fun b H1 ⟨mu1, d, h1, e, hr, rb, p1⟩ => by
    cases rb with
    | bl b => exact ⟨b, rfl, p1 _ _ _ (Ext.refl _ _) hr rfl⟩
    | _ => exact p1.elim⟩
theorem st_cmp {op : CmpOp} {g : O2} (ho : OpR X (compareOp op) (r2 X.K cl g)) (ha : SE X cl W a ma) (hb : SE X cl W b mb) (hm : behindInMarks op b = false := by first | exact nomark _ | rfl) : ST X cl W (.Compare a [op] [b] pos) (tsB (eOp2 g ma mb)) :=
  PT.imp (pt_cmpR ho ha hb hm) (stepB step2)
theorem st_not (h : ST X cl W a mt) : ST X cl W (.UnaryOp .Not a pos) (tNotM mt) :=
  PT.imp (pt_not h) fun sg H Q ⟨mu, env, h, rel, p⟩ => ⟨mu, env, h, rel, (Post.bind (rl := rlB) p).mono fun b H1 ⟨mu1, d, h1, e, hr, rb, p1⟩ => by
    cases rb; exact p1 _ _ _ (Ext.refl _ _) hr rfl⟩
theorem sw_and1 (h : ST X cl W a mt) : SW X cl W (.BoolOp .And [a] pos) mt := pw_and1 h
theorem sw_or1 (h : ST X cl W a mt) : SW X cl W (.BoolOp .Or [a] pos) mt := pw_or1 h
theorem sw_and {rest : List Expr} (h : ST X cl W a mt) (h2 : SW X cl W (.BoolOp .And (b :: rest) pos) mu') : SW X cl W (.BoolOp .And (a :: b :: rest) pos) (tAndM mt mu') :=
  PW.imp (pw_and h h2) fun sg H Q ⟨mu, env, h, rel, p⟩ => ⟨mu, env, h, rel, (Post.bind (rl := rlB) p).mono fun b H1 ⟨mu1, d, h1, e, hr, rb, p1⟩ => by
    cases rb
    cases b with
    | true => exact ⟨mu1, env, h1, ⟨hr, rel.er.mono e⟩, p1⟩
    | false => exact p1 _ _ _ (Ext.refl _ _) hr rfl⟩
theorem sw_or {rest : List Expr} (h : ST X cl W a mt) (h2 : SW X cl W (.BoolOp .Or (b :: rest) pos) mu') : SW X cl W (.BoolOp .Or (a :: b :: rest) pos) (tOrM mt mu') :=
  PW.imp (pw_or h h2) fun sg H Q ⟨mu, env, h, rel, p⟩ => ⟨mu, env, h, rel, (Post.bind (rl := rlB) p).mono fun b H1 ⟨mu1, d, h1, e, hr, rb, p1⟩ => by
    cases rb
    cases b with
    | true => exact p1 _ _ _ (Ext.refl _ _) hr rfl
    | false => exact ⟨mu1, env, h1, ⟨hr, rel.er.mono e⟩, p1⟩⟩
theorem st_bool (h : SW X cl W e mt) : ST X cl W e mt := h.pt
/-! .. as values -/
theorem se_one {op} (h : SE X cl W a ma) : SE X cl W (.BoolOp op [a] pos) ma := pe_one h
theorem se_and {rest : List Expr} (ha : SE X cl W a ma) (hb : SE X cl W (.BoolOp .And (b :: rest) pos) mb) : SE X cl W (.BoolOp .And (a :: b :: rest) pos) (eAndM ma mb) :=
  PE.imp (pe_and ha hb) fun sg H Q ⟨mu, env, h, rel, p⟩ => ⟨mu, env, h, rel, (Post.bind p).mono fun b H1 ⟨mu1, d, h1, e, hr, rb, p1⟩ => by
    cases rb with
    | bl b =>
      cases b with
      | true => exact ⟨true, rfl, mu1, env, h1, ⟨hr, rel.er.mono e⟩, p1⟩
      | false => exact ⟨false, rfl, p1 _ _ _ (Ext.refl _ _) hr (.bl false)⟩
    | _ => exact p1.elim⟩
theorem se_or {rest : List Expr} (ha : SE X cl W a ma) (hb : SE X cl W (.BoolOp .Or (b :: rest) pos) mb) : SE X cl W (.BoolOp .Or (a :: b :: rest) pos) (eOrM ma mb) :=
  PE.imp (pe_or ha hb) fun sg H Q ⟨mu, env, h, rel, p⟩ => ⟨mu, env, h, rel, (Post.bind p).mono fun b H1 ⟨mu1, d, h1, e, hr, rb, p1⟩ => by
    cases rb with
    | bl b =>
      cases b with
      | true => exact ⟨true, rfl, p1 _ _ _ (Ext.refl _ _) hr (.bl true)⟩
      | false => exact ⟨false, rfl, mu1, env, h1, ⟨hr, rel.er.mono e⟩, p1⟩
    | _ => exact p1.elim⟩
theorem se_not (ha : SE X cl W a ma) : SE X cl W (.UnaryOp .Not a pos) (eNotM ma) :=
  PE.imp (pe_not ha) fun sg H Q ⟨mu, env, h, rel, p⟩ => ⟨mu, env, h, rel, (Post.bind p).mono fun b H1 ⟨mu1, d, h1, e, hr, rb, p1⟩ => by
    cases rb with
    | bl b => exact ⟨b, rfl, p1 _ _ _ (Ext.refl _ _) hr (.bl _)⟩
    | _ => exact p1.elim⟩
theorem se_ifExp (hc : ST X cl W c mt) (ha : SE X cl W a ma) (hb : SE X cl W b mb) : SE X cl W (.IfExp c a b pos) (eIfM mt ma mb) :=
  PE.imp (pe_ifExp hc ha hb) fun sg H Q ⟨mu, env, h, rel, p⟩ => ⟨mu, env, h, rel, (Post.bind (rl := rlB) p).mono fun b H1 ⟨mu1, d, h1, e, hr, rb, p1⟩ => by
    cases rb
    cases b with
    | true => exact ⟨mu1, env, h1, ⟨hr, rel.er.mono e⟩, p1⟩
    | false => exact ⟨mu1, env, h1, ⟨hr, rel.er.mono e⟩, p1⟩⟩
end
end DS

set_option Elab.async false
set_option linter.all false
set_option maxRecDepth 100000
set_option maxHeartbeats 4000000
/-! DSC: operations by values. -/
namespace DS
open PySem PySem.Spec PyProof.Rows L2

/-! ### data -/
mutual
def eqD : D → D → Bool
  | .non, .non => true
  | .bl a, .bl b => a == b
  | .bl a, .int j => (if a then 1 else 0) == j
  | .int i, .bl b => i == (if b then 1 else 0)
  | .int i, .int j => i == j
  | .str x, .str y => x == y
  | .tup xs, .tup ys => eqA xs ys
  | _, _ => false
def eqA : List D → List D → Bool
  | [], [] => true
  | x :: xs, y :: ys => eqD x y && eqA xs ys
  | _, _ => false
end
def flatD : D → Bool
  | .non => true
  | .bl _ => true
  | .int _ => true
  | .str _ => true
  | _ => false
/-- pure data, its depth at most n -/
def okN : Nat → D → Bool
  | _, .non => true
  | _, .bl _ => true
  | _, .int _ => true
  | _, .str x => PyData.strOk x
  | n + 1, .tup xs => xs.all (okN n)
  | _, _ => false
mutual
def pd : D → PyData
  | .non => .none
  | .bl b => .bool b
  | .int i => .int i
  | .str x => .str x
  | .tup xs => .tuple (pds xs)
  | .ref _ => .none
  | .sl _ => .none
def pds : List D → List PyData
  | [] => []
  | x :: xs => pd x :: pds xs
end
def scalS : D → D → Bool
  | .non, .non => true | .non, .int _ => true | .int _, .non => true | .non, .bl _ => true | .bl _, .non => true | .non, .str _ => true | .str _, .non => true
  | .int _, .int _ => true | .bl _, .bl _ => true | .str _, .str _ => true
  | .int _, .str _ => true | .str _, .int _ => true | .bl _, .str _ => true | .str _, .bl _ => true
  | _, _ => false
def lsO : O → Option (List D)
  | .lst xs => some xs
  | _ => none
def listOf1 (d : D) (h : Hs) : Option (List D) := match d with
  | .ref n => h[n]?.bind lsO
  | .sl xs => some xs
  | _ => none
def eqH (d e : D) (h : Hs) : Option Bool :=
  match listOf1 d h, listOf1 e h with
  | some xs, some ys => if (xs.all (okN 29) && ys.all (okN 29)) = true then some (eqA xs ys) else none
  | _, _ => if scalS d e = true then some (eqD d e) else if (okN 30 d && okN 30 e) = true then some (eqD d e) else none
def vEq : O2 := fun d e h => (eqH d e h).map fun b => (.bl b, h)
def vNe : O2 := fun d e h => (eqH d e h).map fun b => (.bl (!b), h)
def vAdd : O2
  | .int i, .int j, h => some (.int (i + j), h)
  | .str a, .str b, h => if a.length + b.length ≤ sizeLine then some (.str (a ++ b), h) else none
  | .tup xs, .tup ys, h => if xs.length + ys.length ≤ sizeLine then some (.tup (xs ++ ys), h) else none
  | .ref m, .ref n, h => match h[m]?, h[n]? with
    | some (.lst xs), some (.lst ys) => if xs.length + ys.length ≤ sizeLine then some (.ref h.length, h ++ [.lst (xs ++ ys)]) else none
    | _, _ => none
  | _, _, _ => none
def vSub : O2
  | .int i, .int j, h => some (.int (i - j), h)
  | _, _, _ => none
def mulOk (i j : Int) : Bool := Nat.ble i.natAbs 18446744073709551615 || Nat.ble j.natAbs 18446744073709551615
def vMul : O2
  | .int i, .int j, h => if mulOk i j = true then some (.int (i * j), h) else none
  | .ref m, .int k, h => match h[m]? with
    | some (.lst xs) => if -(2 ^ 63) ≤ k ∧ k < 2 ^ 63 ∧ xs.length * k.toNat ≤ sizeLine then some (.ref h.length, h ++ [.lst (List.replicate k.toNat xs).flatten]) else none
    | _ => none
  | .tup xs, .int k, h => if k = 1 then some (.tup xs, h) else if xs ≠ [] ∧ 2 ≤ k ∧ k ≤ 1000 ∧ xs.length ≤ 1000 then some (.tup (List.replicate k.toNat xs).flatten, h) else none
  | _, _, _ => none
def vMod : O2
  | .int i, .int j, h => if 0 < j then some (.int (i % j), h) else none
  | _, _, _ => none
def vFdiv : O2
  | .int i, .int j, h => if (decide (0 < j) && Nat.ble j.natAbs 1073741823) = true then some (.int (i / j), h) else none
  | _, _, _ => none
def vPow : O2
  | .int i, .int j, h => if 0 ≤ j ∧ j ≤ 1000000 ∧ i.natAbs < 2 ^ 64 then some (.int (i ^ j.toNat), h) else none
  | _, _, _ => none
def vNeg : O1
  | .int i, h => some (.int (-i), h)
  | _, _ => none
def vLt : O2
  | .int i, .int j, h => some (.bl (decide (i < j)), h)
  | _, _, _ => none
def vLe : O2
  | .int i, .int j, h => some (.bl (decide (i ≤ j)), h)
  | _, _, _ => none
def vGt : O2
  | .int i, .int j, h => some (.bl (decide (j < i)), h)
  | _, _, _ => none
def vGe : O2
  | .int i, .int j, h => some (.bl (decide (j ≤ i)), h)
  | _, _, _ => none
def isNon : D → Bool
  | .non => true
  | _ => false
def vIsN : O2
  | d, .non, h => some (.bl (isNon d), h)
  | .bl a, .bl b, h => some (.bl (a == b), h)
  | _, _, _ => none
def vNotN : O2
  | d, .non, h => some (.bl (!isNon d), h)
  | .bl a, .bl b, h => some (.bl (!(a == b)), h)
  | _, _, _ => none
def inD (d : D) (xs : List D) : Bool := xs.any fun y => eqD y d
def inH (d e : D) (h : Hs) : Option Bool :=
  match seqOf e h with
  | some xs => if (flatD d && xs.all flatD) = true then some (inD d xs) else none
  | none => none
def vIn : O2 := fun d e h => (inH d e h).map fun b => (.bl b, h)
def vNotIn : O2 := fun d e h => (inH d e h).map fun b => (.bl (!b), h)
/-- s[i]: a tuple, a list -/
def vIx : O2 := fun d e h => match seqOf d h, e with
  | some xs, .int i => (atI xs i).map fun x => (x, h)
  | _, _ => none

/-! ### equality of data -/
mutual
theorem eqv_pd : ∀ (d e : D) (n m : Nat), okN n d = true → okN m e = true → PyData.eqv (pd d) (pd e) = eqD d e
  | .non, e, n, m, hd, he => by
    cases e with
    | ref k => cases m <;> cases he
    | sl k => cases m <;> cases he
    | _ => simp [pd, PyData.eqv, eqD]
  | .bl b, e, n, m, hd, he => by
    cases e with
    | ref k => cases m <;> cases he
    | sl k => cases m <;> cases he
    | _ => simp [pd, PyData.eqv, eqD]
  | .int b, e, n, m, hd, he => by
    cases e with
    | ref k => cases m <;> cases he
    | sl k => cases m <;> cases he
    | _ => simp [pd, PyData.eqv, eqD]
  | .str b, e, n, m, hd, he => by
    cases e with
    | ref k => cases m <;> cases he
    | sl k => cases m <;> cases he
    | _ => simp [pd, PyData.eqv, eqD]
  | .ref k, e, n, m, hd, he => by cases n <;> cases hd
  | .sl k, e, n, m, hd, he => by cases n <;> cases hd
  | .tup xs, e, n, m, hd, he => by
    cases n with
    | zero => cases hd
    | succ n =>
      cases e with
      | ref k => cases m <;> cases he
      | sl k => cases m <;> cases he
      | tup ys =>
        cases m with
        | zero => cases he
        | succ m => simp only [pd, PyData.eqv, eqD]; exact eqv_pds xs ys n m hd he
      | _ => simp [pd, PyData.eqv, eqD]
theorem eqv_pds : ∀ (xs ys : List D) (n m : Nat), xs.all (okN n) = true → ys.all (okN m) = true → PyData.eqvAll (pds xs) (pds ys) = eqA xs ys
  | [], ys, n, m, hd, he => by cases ys <;> simp [pds, PyData.eqvAll, eqA]
  | x :: xs, [], n, m, hd, he => by simp [pds, PyData.eqvAll, eqA]
  | x :: xs, y :: ys, n, m, hd, he => by
    rw [List.all_cons, Bool.and_eq_true] at hd he
    simp only [pds, PyData.eqvAll, eqA]
    rw [eqv_pd x y n m hd.1 he.1, eqv_pds xs ys n m hd.2 he.2]
end
mutual
theorem shape_pd : ∀ (d : D) (n : Nat), okN n d = true → (pd d).canLay0 = true ∧ (pd d).depth ≤ n + 1
  | .non, n, h => ⟨by simp [pd, PyData.canLay0], by simp [pd, PyData.depth]⟩
  | .bl b, n, h => ⟨by simp [pd, PyData.canLay0], by simp [pd, PyData.depth]⟩
  | .int b, n, h => ⟨by simp [pd, PyData.canLay0], by simp [pd, PyData.depth]⟩
  | .str b, n, h => ⟨by simp only [pd, PyData.canLay0]; cases n <;> exact h, by simp [pd, PyData.depth]⟩
  | .ref k, n, h => by cases n <;> cases h
  | .sl k, n, h => by cases n <;> cases h
  | .tup xs, n, h => by
    cases n with
    | zero => cases h
    | succ n =>
      obtain ⟨h1, h2⟩ := shape_pds xs n h
      refine ⟨by simp only [pd, PyData.canLay0]; exact h1, ?_⟩
      simp only [pd, PyData.depth]
      omega
theorem shape_pds : ∀ (xs : List D) (n : Nat), xs.all (okN n) = true → PyData.canLayAll0 (pds xs) = true ∧ PyData.depthAll (pds xs) ≤ n + 1
  | [], n, h => ⟨by simp [pds, PyData.canLayAll0], by simp [pds, PyData.depthAll]⟩
  | x :: xs, n, h => by
    rw [List.all_cons, Bool.and_eq_true] at h
    obtain ⟨a1, a2⟩ := shape_pd x n h.1
    obtain ⟨b1, b2⟩ := shape_pds xs n h.2
    refine ⟨by simp only [pds, PyData.canLayAll0]; rw [a1, b1]; rfl, ?_⟩
    simp only [pds, PyData.depthAll]
    omega
end
mutual
theorem Rp.dp {K : PySem.W.Frag} {H : Hp} {mu : List Addr} : ∀ (d : D) (v : V) (n : Nat), Rp K H mu d v → okN n d = true → Dp K H v (pd d)
  | .non, _, _, .non, _ => .non
  | .bl _, _, _, .bl b, _ => .bl b
  | .int _, _, _, .int b, _ => .int b
  | .str _, _, _, .str b, _ => .str b
  | .ref _, _, n, _, h => by cases n <;> cases h
  | .sl _, _, n, _, h => by cases n <;> cases h
  | .tup xs, _, n, .tup s r, h => by
    cases n with
    | zero => cases h
    | succ n => simp only [pd]; exact .tup s (RpA.dp xs _ n r h)
theorem RpA.dp {K : PySem.W.Frag} {H : Hp} {mu : List Addr} : ∀ (ds : List D) (vs : List V) (n : Nat), RpA K H mu ds vs → ds.all (okN n) = true → DpAll K H vs (pds ds)
  | [], _, _, .nil, _ => by simp only [pds]; exact .nil
  | d :: ds, _, n, .cons a b, h => by
    rw [List.all_cons, Bool.and_eq_true] at h
    simp only [pds]
    exact .cons (Rp.dp d _ n a h.1) (RpA.dp ds _ n b h.2)
end
theorem eqD_eqV {K : PySem.W.Frag} {H : Hp} {mu : List Addr} {d e : D} {x y : V} (rx : Rp K H mu d x) (ry : Rp K H mu e y) (fd : flatD d = true) (fe : flatD e = true) : eqV x y = eqD d e := by
  cases rx <;> cases ry <;> first | (simp [flatD] at fd; done) | (simp [flatD] at fe; done) | (simp [eqV, eqD]; done)
theorem flat_of {K : PySem.W.Frag} {H : Hp} {mu : List Addr} {d : D} {x : V} (rx : Rp K H mu d x) (fd : flatD d = true) : flatV x = true := by
  cases rx <;> first | (simp [flatD] at fd; done) | rfl
theorem flats_of {K : PySem.W.Frag} {H : Hp} {mu : List Addr} : ∀ {ds : List D} {xs : List V}, RpA K H mu ds xs → ds.all flatD = true → xs.all flatV = true
  | _, _, .nil, _ => rfl
  | _, _, .cons a b, h => by
    rw [List.all_cons, Bool.and_eq_true] at h ⊢
    exact ⟨flat_of a h.1, flats_of b h.2⟩
theorem in_of {K : PySem.W.Frag} {H : Hp} {mu : List Addr} {d : D} {x : V} (rx : Rp K H mu d x) (fd : flatD d = true) : ∀ {ds : List D} {xs : List V}, RpA K H mu ds xs → ds.all flatD = true → inV x xs = inD d ds
  | _, _, .nil, _ => rfl
  | _, _, .cons a b, h => by
    rw [List.all_cons, Bool.and_eq_true] at h
    unfold inV inD
    rw [List.any_cons, List.any_cons, eqD_eqV a rx h.1 fd]
    exact congrArg _ (in_of rx fd b h.2)
theorem scal_of {K : PySem.W.Frag} {H : Hp} {mu : List Addr} {d e : D} {x y : V} (rx : Rp K H mu d x) (ry : Rp K H mu e y) (s : scalS d e = true) : scal x y = true ∧ decide (x = y) = eqD d e := by
  cases rx <;> cases ry <;> first | (simp [scalS] at s; done) | (refine ⟨rfl, ?_⟩; simp [eqD]; done) | (refine ⟨rfl, ?_⟩; rw [dec_int]; simp [eqD]; done) | (refine ⟨rfl, ?_⟩; rw [dec_bl]; simp [eqD]; done) | (refine ⟨rfl, ?_⟩; rw [dec_str]; simp [eqD]; done)

theorem tuple_mul1 (l : Addr) (items : Array Value) (n : Nat) (dd : Option Addr) (sl : Array (Option Value)) (u : Tok) :
    Meets (Builtin.«tuple.__mul__» ⟨[.ref l, .int 1 u], []⟩) (fun _ R s => s.heap.get? l = some { cls := .type "tuple", dict := dd, data := .seq items n, slots := sl } ∧ R (.ok (.ret (.ref l))) s) :=
  .of_wp fun prog w A R s h => by
    obtain ⟨hp, g, d, tk, os⟩ := s
    obtain ⟨hl, h⟩ := h
    have f1 := AutoSeq1.idx_int
    wp_walk using wpAny_loadPart' hl
    exact ⟨_, rfl, h⟩
theorem op_repT1 {X : Cx} : OpR X (binaryOp .Mult) (fun x y H Q => ∃ l xs, x = .ref l ∧ y = .int 1 ∧ SqT X.K H l xs ∧ Q (.ref l) H) := by
  intro pins s σ H x y v u Q I rx ry ⟨l, xs, hx, hy, hT, q⟩
  subst hx hy
  cases rx
  obtain ⟨t, rfl⟩ := ry
  obtain ⟨its, r, ⟨⟨cls, dd, data, sl⟩, ho, hc, n, hd⟩, hs⟩ := I.tuple hT
  simp only at hc hd
  subst hc hd
  exact wpAny_binaryOp_repeat_ref (T := "tuple") (U := "int") (by decide) ⟨_, ho, rfl⟩ (fun s' => typeIs_int s' 1 t) noFill_tuple_mul F.fills_int_mul F.slot_int_rmul repeat_tuple F.slot_int_index.lookup
    (call_meets F.slot_int_rmul (typeIs_int s 1 t) F.entry_int_rmul (F.args_int_rmul_2 _ _) (int_rmul_tuple 1 t l its.toArray n dd sl)
      ⟨ho, rfl, ⟨_, ho, rfl⟩, call_meets F.slot_tuple_mul ⟨_, ho, rfl⟩ F.entry_tuple_mul (F.args_tuple_mul_2 _ _) (tuple_mul1 l its.toArray n dd sl t) ⟨ho, .ref l, H, I, rfl, q⟩⟩)
section
variable {X : Cx} {cl : CW}
/-! ### the rules -/
theorem lsO_ok {K : PySem.W.Frag} {H : Hp} {mu : List Addr} {h : Hs} {n : Nat} {a : Addr} {xs : List D} (hr : HR K H mu cl h) (hn : mu[n]? = some a) (e : h[n]?.bind lsO = some xs) : ∃ ys, H a = some (.lst ys) ∧ RpA K H mu xs ys := by
  cases q : h[n]? with
  | none => rw [q] at e; cases e
  | some o =>
    rw [q] at e
    obtain ⟨a', ha', ro⟩ := hr.at q
    rw [hn] at ha'; cases ha'
    cases o with
    | lst ys => cases e; obtain ⟨zs, h1, h2⟩ := ro; exact ⟨zs, h1, h2⟩
    | _ => cases e
theorem listOf1_ok {K : PySem.W.Frag} {H : Hp} {mu : List Addr} {h : Hs} {d : D} {v : V} {xs : List D} (hr : HR K H mu cl h) (r : Rp K H mu d v) (e : listOf1 d h = some xs) : ∃ a ys, v = .ref a ∧ SqL K H a ys ∧ RpA K H mu xs ys := by
  cases r with
  | @ref n a hn => obtain ⟨ys, h1, h2⟩ := lsO_ok hr hn e; exact ⟨a, ys, rfl, .inl (.inl h1), h2⟩
  | sl s ra => cases e; exact ⟨_, _, rfl, s.sql, ra⟩
  | _ => cases e
/-- how == is decided, by one of two rules -/
theorem eqH_ok {K : PySem.W.Frag} {H : Hp} {mu : List Addr} {h : Hs} {d e : D} {x y : V} {b : Bool} (hr : HR K H mu cl h) (rx : Rp K H mu d x) (ry : Rp K H mu e y) (q : eqH d e h = some b) :
    (scal x y = true ∧ decide (x = y) = b) ∨ ∃ p r, Dp K H x p ∧ Dp K H y r ∧ SeqAt.shaped p = true ∧ SeqAt.shaped r = true ∧ PyData.eqv p r = b := by
  have gen : (if scalS d e = true then some (eqD d e) else if (okN 30 d && okN 30 e) = true then some (eqD d e) else none) = some b →
      (scal x y = true ∧ decide (x = y) = b) ∨ ∃ p r, Dp K H x p ∧ Dp K H y r ∧ SeqAt.shaped p = true ∧ SeqAt.shaped r = true ∧ PyData.eqv p r = b := fun q => by
    split at q
    · rename_i hs
      cases q
      exact .inl (scal_of rx ry hs)
    · split at q
      · rename_i hs
        rw [Bool.and_eq_true] at hs
        cases q
        obtain ⟨a1, a2⟩ := shape_pd d 30 hs.1
        obtain ⟨b1, b2⟩ := shape_pd e 30 hs.2
        refine .inr ⟨pd d, pd e, Rp.dp d x 30 rx hs.1, Rp.dp e y 30 ry hs.2, ?_, ?_, eqv_pd d e 30 30 hs.1 hs.2⟩
        · unfold SeqAt.shaped; rw [a1, decide_eq_true (by omega)]; rfl
        · unfold SeqAt.shaped; rw [b1, decide_eq_true (by omega)]; rfl
      · cases q
  unfold eqH at q
  cases q1 : listOf1 d h with
  | none => rw [q1] at q; exact gen q
  | some xs =>
    cases q2 : listOf1 e h with
    | none => rw [q1, q2] at q; exact gen q
    | some ys =>
      rw [q1, q2] at q
      simp only at q
      split at q
      · rename_i hs
        rw [Bool.and_eq_true] at hs
        cases q
        obtain ⟨_, us, rfl, h1, r1⟩ := listOf1_ok hr rx q1
        obtain ⟨_, ws, rfl, h2, r2⟩ := listOf1_ok hr ry q2
        obtain ⟨a1, a2⟩ := shape_pds xs 29 hs.1
        obtain ⟨b1, b2⟩ := shape_pds ys 29 hs.2
        refine .inr ⟨.list (pds xs), .list (pds ys), .lst h1 (RpA.dp xs us 29 r1 hs.1), .lst h2 (RpA.dp ys ws 29 r2 hs.2), ?_, ?_, ?_⟩
        · unfold SeqAt.shaped; rw [show (PyData.list (pds xs)).canLay0 = true by simp only [PyData.canLay0]; exact a1, decide_eq_true (show (PyData.list (pds xs)).depth ≤ 64 by show PyData.depthAll (pds xs) + 1 ≤ 64; omega)]; rfl
        · unfold SeqAt.shaped; rw [show (PyData.list (pds ys)).canLay0 = true by simp only [PyData.canLay0]; exact b1, decide_eq_true (show (PyData.list (pds ys)).depth ≤ 64 by show PyData.depthAll (pds ys) + 1 ≤ 64; omega)]; rfl
        · simp only [PyData.eqv]; exact eqv_pds xs ys 29 29 hs.1 hs.2
      · cases q
theorem o_eq (hu : X.A.units + 64 < cLine) : OpR X (compareOp .Eq) (r2 X.K cl vEq) := by
  intro pins s σ H x y v u Q I rx ry ⟨mu, h, d, e, hr, rd, re, p⟩
  unfold vEq at p
  cases q : eqH d e h with
  | none => rw [q] at p; exact p.elim
  | some b =>
    rw [q] at p
    have hq : Q (.bl b) H := p _ _ _ (Ext.refl _ _) hr (.bl b)
    rcases eqH_ok hr rd re q with ⟨h1, h2⟩ | ⟨p1, p2, h1, h2, h3, h4, h5⟩
    · exact op_eq pins s σ H x y v u Q I rx ry ⟨h1, by rw [h2]; exact hq⟩
    · exact op_eqD hu pins s σ H x y v u Q I rx ry ⟨p1, p2, h1, h2, h3, h4, by rw [h5]; exact hq⟩
theorem o_ne (hu : X.A.units + 64 < cLine) : OpR X (compareOp .NotEq) (r2 X.K cl vNe) := by
  intro pins s σ H x y v u Q I rx ry ⟨mu, h, d, e, hr, rd, re, p⟩
  unfold vNe at p
  cases q : eqH d e h with
  | none => rw [q] at p; exact p.elim
  | some b =>
    rw [q] at p
    have hq : Q (.bl (!b)) H := p _ _ _ (Ext.refl _ _) hr (.bl _)
    rcases eqH_ok hr rd re q with ⟨h1, h2⟩ | ⟨p1, p2, h1, h2, h3, h4, h5⟩
    · exact op_ne pins s σ H x y v u Q I rx ry ⟨h1, by rw [h2]; exact hq⟩
    · exact op_neD hu pins s σ H x y v u Q I rx ry ⟨p1, p2, h1, h2, h3, h4, by rw [h5]; exact hq⟩
theorem o_in : OpR X (compareOp .In) (r2 X.K cl vIn) := by
  intro pins s σ H x y v u Q I rx ry ⟨mu, h, d, e, hr, rd, re, p⟩
  unfold vIn inH at p
  cases q : seqOf e h with
  | none => rw [q] at p; exact p.elim
  | some xs =>
    rw [q] at p
    simp only at p
    split at p
    · rename_i hs
      rw [Bool.and_eq_true] at hs
      obtain ⟨a, ys, rfl, ra, hh⟩ := seqOf_ok hr re q
      refine op_in_seq pins s σ H x _ v u Q I rx ry ⟨a, ys, rfl, ?_, flat_of rd hs.1, flats_of ra hs.2, ?_⟩
      · rcases hh with ⟨z, _⟩ | z
        · exact .inr z
        · exact .inl z
      · have e2 := in_of rd hs.1 ra hs.2
        show Q (.bl (inV x ys)) H
        rw [e2]
        exact p _ _ _ (Ext.refl _ _) hr (.bl _)
    · exact p.elim
theorem o_notIn : OpR X (compareOp .NotIn) (r2 X.K cl vNotIn) := by
  intro pins s σ H x y v u Q I rx ry ⟨mu, h, d, e, hr, rd, re, p⟩
  unfold vNotIn inH at p
  cases q : seqOf e h with
  | none => rw [q] at p; exact p.elim
  | some xs =>
    rw [q] at p
    simp only at p
    split at p
    · rename_i hs
      rw [Bool.and_eq_true] at hs
      obtain ⟨a, ys, rfl, ra, hh⟩ := seqOf_ok hr re q
      refine op_notIn_seq pins s σ H x _ v u Q I rx ry ⟨a, ys, rfl, ?_, flat_of rd hs.1, flats_of ra hs.2, ?_⟩
      · rcases hh with ⟨z, _⟩ | z
        · exact .inr z
        · exact .inl z
      · have e2 := in_of rd hs.1 ra hs.2
        show Q (.bl (!inV x ys)) H
        rw [e2]
        exact p _ _ _ (Ext.refl _ _) hr (.bl _)
    · exact p.elim
theorem o_add : OpR X (binaryOp .Add) (r2 X.K cl vAdd) := by
  intro pins s σ H x y v u Q I rx ry ⟨mu, h, d, e, hr, rd, re, p⟩
  cases rd with
  | int i =>
    cases re with
    | int j => exact op_add pins s σ H _ _ v u Q I rx ry ⟨i, j, rfl, rfl, p _ _ _ (Ext.refl _ _) hr (.int _)⟩
    | _ => exact p.elim
  | str i =>
    cases re with
    | str j =>
      unfold vAdd at p
      simp only at p
      split at p
      · rename_i hz
        exact op_add_str pins s σ H _ _ v u Q I rx ry ⟨i, j, rfl, rfl, hz, p _ _ _ (Ext.refl _ _) hr (.str _)⟩
      · exact p.elim
    | _ => exact p.elim
  | @tup a xs ds sa ra =>
    cases re with
    | @tup b ys es sb rb =>
      unfold vAdd at p
      simp only at p
      split at p
      · rename_i hz
        refine op_catA pins s σ H _ _ v u Q I rx ry ⟨a, b, xs, ys, rfl, rfl, sa, sb, by rw [← ra.length, ← rb.length]; exact hz, fun h0 => ?_, fun h0 h1 => ?_, fun h0 h1 q hq => ?_⟩
        · have : ds = [] := ra.nil_iff.mpr h0
          subst this
          exact p _ _ _ (Ext.refl _ _) hr (.tup sb rb)
        · have : es = [] := rb.nil_iff.mpr h1
          subst this
          exact p _ _ _ (Ext.refl _ _) hr (.tup sa (by simpa using ra))
        · exact p _ _ _ (Ext.tupled hq) (hr.tupled hq) (.tup (.inl (.inl upd_same)) ((ra.append rb).mono (Ext.tupled hq)))
      · exact p.elim
    | _ => exact p.elim
  | @ref m a hm =>
    cases re with
    | @ref n b hn =>
      unfold vAdd at p
      simp only at p
      split at p
      · rename_i xs ys e1 e2
        split at p
        · rename_i hz
          obtain ⟨a', ha', us, g1, k1⟩ := hr.at e1
          rw [hm] at ha'; cases ha'
          obtain ⟨b', hb', ws, g2, k2⟩ := hr.at e2
          rw [hn] at hb'; cases hb'
          refine op_cat pins s σ H _ _ v u Q I rx ry ⟨a, b, us, ws, rfl, rfl, g1, g2, by rw [← k1.length, ← k2.length]; exact hz, fun q hq => ?_⟩
          refine p _ _ _ (Ext.allocd hq) (hr.allocd hq ⟨_, upd_same, (k1.append k2).mono (Ext.allocd hq)⟩) (.ref ?_)
          rw [← hr.len]; simp
        · exact p.elim
      · exact p.elim
    | _ => exact p.elim
  | _ => exact p.elim
theorem o_sub : OpR X (binaryOp .Sub) (r2 X.K cl vSub) := by
  intro pins s σ H x y v u Q I rx ry ⟨mu, h, d, e, hr, rd, re, p⟩
  cases rd with
  | int i =>
    cases re with
    | int j => exact op_sub pins s σ H _ _ v u Q I rx ry ⟨i, j, rfl, rfl, p _ _ _ (Ext.refl _ _) hr (.int _)⟩
    | _ => exact p.elim
  | _ => exact p.elim
theorem o_mul : OpR X (binaryOp .Mult) (r2 X.K cl vMul) := by
  intro pins s σ H x y v u Q I rx ry ⟨mu, h, d, e, hr, rd, re, p⟩
  cases rd with
  | int i =>
    cases re with
    | int j =>
      unfold vMul at p
      simp only at p
      split at p
      · rename_i hz
        refine op_mul pins s σ H _ _ v u Q I rx ry ⟨i, j, rfl, rfl, ?_, p _ _ _ (Ext.refl _ _) hr (.int _)⟩
        unfold mulOk at hz
        rw [Bool.or_eq_true] at hz
        rcases hz with hz | hz
        · have := Nat.le_of_ble_eq_true hz
          exact .inl (by omega)
        · have := Nat.le_of_ble_eq_true hz
          exact .inr (by omega)
      · exact p.elim
    | _ => exact p.elim
  | @ref m a hm =>
    cases re with
    | int k =>
      unfold vMul at p
      simp only at p
      split at p
      · rename_i xs e1
        split at p
        · rename_i hz
          obtain ⟨z1, z2, z3⟩ := hz
          obtain ⟨a', ha', us, g1, k1⟩ := hr.at e1
          rw [hm] at ha'; cases ha'
          refine op_rep pins s σ H _ _ v u Q I rx ry ⟨a, k, us, rfl, rfl, g1, z1, z2, by rw [← k1.length]; exact z3, fun q hq => ?_⟩
          refine p _ _ _ (Ext.allocd hq) (hr.allocd hq ⟨_, upd_same, (k1.flat _).mono (Ext.allocd hq)⟩) (.ref ?_)
          rw [← hr.len]; simp
        · exact p.elim
      · exact p.elim
    | _ => exact p.elim
  | @tup a xs ds sa ra =>
    cases re with
    | int k =>
      unfold vMul at p
      simp only at p
      by_cases hk : k = 1
      · subst hk
        rw [if_pos rfl] at p
        exact op_repT1 pins s σ H _ _ v u Q I rx ry ⟨a, xs, rfl, rfl, sa, p _ _ _ (Ext.refl _ _) hr (.tup sa ra)⟩
      rw [if_neg hk] at p
      split at p
      · rename_i hz
        obtain ⟨z1, z2, z3, z4⟩ := hz
        refine op_repT pins s σ H _ _ v u Q I rx ry ⟨a, k, xs, rfl, rfl, sa, fun h0 => z1 (ra.nil_iff.mpr h0), z2, z3, by rw [← ra.length]; exact z4, fun q hq => ?_⟩
        exact p _ _ _ (Ext.tupled hq) (hr.tupled hq) (.tup (.inl (.inl upd_same)) ((ra.flat _).mono (Ext.tupled hq)))
      · exact p.elim
    | _ => exact p.elim
  | _ => exact p.elim
theorem o_mod : OpR X (binaryOp .Mod) (r2 X.K cl vMod) := by
  intro pins s σ H x y v u Q I rx ry ⟨mu, h, d, e, hr, rd, re, p⟩
  cases rd with
  | int i =>
    cases re with
    | int j =>
      unfold vMod at p
      simp only at p
      split at p
      · rename_i hz
        exact op_mod pins s σ H _ _ v u Q I rx ry ⟨i, j, rfl, rfl, hz, p _ _ _ (Ext.refl _ _) hr (.int _)⟩
      · exact p.elim
    | _ => exact p.elim
  | _ => exact p.elim
theorem o_fdiv : OpR X (binaryOp .FloorDiv) (r2 X.K cl vFdiv) := by
  intro pins s σ H x y v u Q I rx ry ⟨mu, h, d, e, hr, rd, re, p⟩
  cases rd with
  | int i =>
    cases re with
    | int j =>
      unfold vFdiv at p
      simp only at p
      split at p
      · rename_i hz
        exact op_fdiv pins s σ H _ _ v u Q I rx ry ⟨i, j, rfl, rfl, (by
          rw [Bool.and_eq_true, decide_eq_true_eq] at hz
          have := Nat.le_of_ble_eq_true hz.2
          exact ⟨hz.1, by omega⟩), p _ _ _ (Ext.refl _ _) hr (.int _)⟩
      · exact p.elim
    | _ => exact p.elim
  | _ => exact p.elim
theorem o_pow : OpR X (binaryOp .Pow) (r2 X.K cl vPow) := by
  intro pins s σ H x y v u Q I rx ry ⟨mu, h, d, e, hr, rd, re, p⟩
  cases rd with
  | int i =>
    cases re with
    | int j =>
      unfold vPow at p
      simp only at p
      split at p
      · rename_i hz
        exact op_pow pins s σ H _ _ v u Q I rx ry ⟨i, j, rfl, rfl, hz, p _ _ _ (Ext.refl _ _) hr (.int _)⟩
      · exact p.elim
    | _ => exact p.elim
  | _ => exact p.elim
theorem o_neg : UnR X (unaryOp .USub) (r1 X.K cl vNeg) := by
  intro pins s σ H x v Q I rx ⟨mu, h, d, hr, rd, p⟩
  cases rd with
  | int i => exact un_neg pins s σ H _ v Q I rx ⟨i, rfl, p _ _ _ (Ext.refl _ _) hr (.int _)⟩
  | _ => exact p.elim
theorem o_lt : OpR X (compareOp .Lt) (r2 X.K cl vLt) := by
  intro pins s σ H x y v u Q I rx ry ⟨mu, h, d, e, hr, rd, re, p⟩
  cases rd with
  | int i =>
    cases re with
    | int j => exact op_lt pins s σ H _ _ v u Q I rx ry ⟨i, j, rfl, rfl, p _ _ _ (Ext.refl _ _) hr (.bl _)⟩
    | _ => exact p.elim
  | _ => exact p.elim
theorem o_le : OpR X (compareOp .LtE) (r2 X.K cl vLe) := by
  intro pins s σ H x y v u Q I rx ry ⟨mu, h, d, e, hr, rd, re, p⟩
  cases rd with
  | int i =>
    cases re with
    | int j => exact op_le pins s σ H _ _ v u Q I rx ry ⟨i, j, rfl, rfl, p _ _ _ (Ext.refl _ _) hr (.bl _)⟩
    | _ => exact p.elim
  | _ => exact p.elim
theorem o_gt : OpR X (compareOp .Gt) (r2 X.K cl vGt) := by
  intro pins s σ H x y v u Q I rx ry ⟨mu, h, d, e, hr, rd, re, p⟩
  cases rd with
  | int i =>
    cases re with
    | int j => exact op_gt pins s σ H _ _ v u Q I rx ry ⟨i, j, rfl, rfl, p _ _ _ (Ext.refl _ _) hr (.bl _)⟩
    | _ => exact p.elim
  | _ => exact p.elim
theorem o_ge : OpR X (compareOp .GtE) (r2 X.K cl vGe) := by
  intro pins s σ H x y v u Q I rx ry ⟨mu, h, d, e, hr, rd, re, p⟩
  cases rd with
  | int i =>
    cases re with
    | int j => exact op_ge pins s σ H _ _ v u Q I rx ry ⟨i, j, rfl, rfl, p _ _ _ (Ext.refl _ _) hr (.bl _)⟩
    | _ => exact p.elim
  | _ => exact p.elim
theorem isNon_ok {K : PySem.W.Frag} {H : Hp} {mu : List Addr} {d : D} {x : V} (r : Rp K H mu d x) : decide (x = .non) = isNon d := by
  cases r <;> simp [isNon]
theorem o_ix : IxR X (r2 X.K cl vIx) := by
  intro value slice pins s σ H x y v u Q I rx ry ⟨mu, h, d, e, hr, rd, re, p⟩ hs
  unfold vIx at p
  cases q : seqOf d h with
  | none => rw [q] at p; exact p.elim
  | some xs =>
    rw [q] at p
    cases re with
    | int i =>
      simp only at p
      obtain ⟨a, ys, rfl, ra, hh⟩ := seqOf_ok hr rd q
      cases q2 : atI xs i with
      | none => rw [q2] at p; exact p.elim
      | some z =>
        rw [q2] at p
        have : ∃ w, atI ys i = some w ∧ Rp X.K H mu z w := by
          unfold atI at q2 ⊢
          rw [← ra.length]
          cases q3 : ixN xs.length i with
          | none => rw [q3] at q2; cases q2
          | some j => rw [q3] at q2; exact ra.get q2
        obtain ⟨w, hw, rw'⟩ := this
        have hq := p _ _ _ (Ext.refl _ _) hr rw'
        rcases hh with ⟨z, _⟩ | z
        · exact ix_tup value slice pins s σ H _ _ v u Q I rx ry ⟨a, ys, i, w, rfl, rfl, z, hw, hq⟩ hs
        · exact ix_list value slice pins s σ H _ _ v u Q I rx ry ⟨a, ys, i, w, rfl, rfl, z, hw, hq⟩ hs
    | _ => exact p.elim
end
end DS

set_option Elab.async false
set_option linter.all false
set_option maxRecDepth 100000
set_option maxHeartbeats 4000000
/-! DSD: built-ins, methods, slices, dicts. -/
namespace DS
open PySem PySem.Spec PyProof.Rows L2

/-! ### meanings -/
def vLen : ON
  | [.str x], h => if x.length ≤ sizeLine then some (.int x.length, h) else none
  | [d], h => match seqOf d h with
    | some xs => some (.int xs.length, h)
    | none => match d with
      | .ref n => match h[n]? with
        | some (.dct kvs) => some (.int kvs.length, h)
        | _ => none
      | _ => none
  | _, _ => none
def vInt : ON
  | [.int i], h => some (.int i, h)
  | [.bl b], h => some (.int (if b then 1 else 0), h)
  | _, _ => none
def vList : ON
  | [d], h => match seqOf d h with
    | some xs => some (.ref h.length, h ++ [.lst xs])
    | none => none
  | _, _ => none
def vTuple : ON
  | [d], h => match seqOf d h with
    | some xs => some (.tup xs, h)
    | none => none
  | _, _ => none
def intsOf : List D → Option (List Int)
  | [] => some []
  | .int i :: r => (intsOf r).map (i :: ·)
  | _ => none
def blsOf : List D → Option (List Bool)
  | [] => some []
  | .bl i :: r => (blsOf r).map (i :: ·)
  | _ => none
def maxI : List Int → Int
  | [] => 0
  | x :: r => r.foldl max x
def minI : List Int → Int
  | [] => 0
  | x :: r => r.foldl min x
def vMax : ON
  | [.int i, .int j], h => some (.int (if j > i then j else i), h)
  | [d], h => match (listOf1 d h).bind intsOf with
    | some (x :: r) => some (.int (maxI (x :: r)), h)
    | _ => none
  | _, _ => none
def vMin : ON
  | [.int i, .int j], h => some (.int (if j < i then j else i), h)
  | [d], h => match (listOf1 d h).bind intsOf with
    | some (x :: r) => some (.int (minI (x :: r)), h)
    | _ => none
  | _, _ => none
def vAny : ON
  | [d], h => match (listOf1 d h).bind blsOf with
    | some bs => some (.bl (bs.any id), h)
    | none => none
  | _, _ => none
def vAll : ON
  | [d], h => match (listOf1 d h).bind blsOf with
    | some bs => some (.bl (bs.all id), h)
    | none => none
  | _, _ => none
def vSum : ON
  | [d], h => match (listOf1 d h).bind intsOf with
    | some bs => some (.int bs.sum, h)
    | none => none
  | _, _ => none

/-- the types that isinstance is asked of -/
inductive Ty where
  | tup | int | bl | str | lst | dct
  deriving DecidableEq
def Ty.name : Ty → String
  | .tup => "tuple" | .int => "int" | .bl => "bool" | .str => "str" | .lst => "list" | .dct => "dict"
def isiD (T : Ty) (d : D) (h : Hs) : Option Bool :=
  match d with
  | .non => some false
  | .bl _ => some (match T with | .bl => true | .int => true | _ => false)
  | .int _ => some (match T with | .int => true | _ => false)
  | .str _ => some (match T with | .str => true | _ => false)
  | .tup _ => some (match T with | .tup => true | _ => false)
  | .sl _ => none
  | .ref n => match h[n]? with
    | some (.lst _) => some (match T with | .lst => true | _ => false)
    | some (.dct _) => some (match T with | .dct => true | _ => false)
    | _ => none
def eIsi (T : Ty) (a : ME) : ME := fun env h => (a env h).bind fun x h1 => lft ((isiD T x h1).map fun b => (.bl b, h1))

/-- methods of lists -/
def isL (d : D) (h : Hs) : Bool := (listOf1 d h).isSome
abbrev OM := D → List D → Hs → Option (D × Hs)
def eMethL (g : OM) (a : ME) (b : MA) : ME := fun env h => (a env h).bind fun x h1 => if isL x h1 = true then (b env h1).bind fun ys h2 => lft (g x ys h2) else .bad
def vAppend : OM
  | .ref n, [y], h => match h[n]? with
    | some (.lst xs) => if xs.length < sizeLine then some (.non, h.set n (.lst (xs ++ [y]))) else none
    | _ => none
  | _, _, _ => none
def vExtend : OM
  | .ref n, [.ref m], h => match h[n]?, h[m]? with
    | some (.lst xs), some (.lst ys) => if xs.length + ys.length ≤ sizeLine then some (.non, h.set n (.lst (xs ++ ys))) else none
    | _, _ => none
  | _, _, _ => none
def vPop : OM
  | .ref n, [], h => match h[n]? with
    | some (.lst xs) => match xs[xs.length - 1]? with
      | some y => some (y, h.set n (.lst xs.dropLast))
      | none => none
    | _ => none
  | _, _, _ => none

/-- slices -/
def cut {α : Type} (xs : List α) (lo hi : Option Int) : List α := (xs.drop (HT.sIx xs.length 0 lo)).take (HT.sIx xs.length xs.length hi - HT.sIx xs.length 0 lo)
abbrev MO := En → Hs → R (Option Int)
def oNone : MO := fun _ h => .ok none h
def oSome (a : ME) : MO := fun env h => (a env h).bind fun x h1 => match x with | .int i => .ok (some i) h1 | _ => .bad
def vSl (d : D) (lo hi : Option Int) (h : Hs) : Option (D × Hs) :=
  match d with
  | .tup xs => some (.tup (cut xs lo hi), h)
  | d => match listOf1 d h with
    | some xs => some (.ref h.length, h ++ [.lst (cut xs lo hi)])
    | none => none
def eSl (a : ME) (lo hi : MO) : ME := fun env h => (a env h).bind fun x h1 => (lo env h1).bind fun l h2 => (hi env h2).bind fun u h3 => lft (vSl x l u h3)

/-- dicts -/
def keyD : D → Option Key
  | .int i => some (.inl i)
  | .str x => some (.inr x)
  | _ => none
def keyT : List D → Option (List Key)
  | [] => some []
  | d :: r => (keyD d).bind fun k => (keyT r).map (k :: ·)
def getK {κ : Type} [DecidableEq κ] (kvs : List (κ × D)) (k : κ) : Option D := (kvs.find? fun kv => decide (kv.1 = k)).map (·.2)
def setK {κ : Type} [DecidableEq κ] (kvs : List (κ × D)) (k : κ) (v : D) : List (κ × D) :=
  if (kvs.any fun kv => decide (kv.1 = k)) = true then kvs.map (fun kv => if kv.1 = k then (kv.1, v) else kv) else kvs ++ [(k, v)]
def vDGet : O2
  | .ref n, e, h => match h[n]? with
    | some (.dct kvs) => ((keyD e).bind (getK kvs)).map fun v => (v, h)
    | _ => none
  | _, _, _ => none
/-- o[i] = v -/
abbrev OS := D → D → D → Hs → Option Hs
def vDPut : OS
  | .ref n, e, v, h => match h[n]?, keyD e with
    | some (.dct kvs), some k => if kvs.length < sizeLine then some (h.set n (.dct (setK kvs k v))) else none
    | _, _ => none
  | _, _, _, _ => none
def vLPut : OS
  | .ref n, .int i, v, h => match h[n]? with
    | some (.lst xs) => (ixN xs.length i).map fun j => h.set n (.lst (xs.set j v))
    | _ => none
  | _, _, _, _ => none
/-- a display -/
def ePairs : List (ME × ME) → En → Hs → R (List (D × D))
  | [], _, h => .ok [] h
  | (a, b) :: r, env, h => (a env h).bind fun x h1 => (b env h1).bind fun y h2 => (ePairs r env h2).bind fun ps h3 => .ok ((x, y) :: ps) h3
def keysOf : List (D × D) → Option (List (Key × D))
  | [] => some []
  | (k, v) :: r => (keyD k).bind fun q => (keysOf r).map ((q, v) :: ·)
def eDict (ps : List (ME × ME)) : ME := fun env h => (ePairs ps env h).bind fun rs h1 => match keysOf rs with
  | some kvs => if kvs.length ≤ 15 then .ok (.ref h1.length) (h1 ++ [.dct (kvs.foldl (fun acc kv => setK acc kv.1 kv.2) [])]) else .bad
  | none => .bad
/-- an item of a written dict -/
def eKGet (tab : List (Str × D)) (a : ME) : ME := fun env h => (a env h).bind fun x h1 => match x with
  | .str z => match tab.lookup z with
    | some d => .ok d h1
    | none => .bad
  | _ => .bad
/-- a op b op' c -/
def eChain (g g' : O2) (a b c : ME) : ME := fun env h => (a env h).bind fun x h1 => (b env h1).bind fun y h2 => (lft (g x y h2)).bind fun z h3 => match z with
  | .bl true => (c env h3).bind fun w h4 => lft (g' y w h4)
  | .bl false => .ok (.bl false) h3
  | _ => .bad

/-! ### the rules -/
section
variable {X : Cx} {cl : CW} {W : WX} {a b c e : Expr} {es : List Expr} {ma mb mc : ME} {mt mu' : MT} {ms : MA} {pos p : Pos}
theorem se_callB {id : String} {x : Str} {g : ON} (hc : CallR X (.builtin id) (rN X.K cl g)) (hm : X.mg x = none) (hv : bootBuiltins x = some (.builtin id)) (ha : SA X cl W (e :: es) ms) (hg : Gl X x := by rfl) (hn : x ≠ "__name__" := by decide) (hdb : (x == ("__debug__" : Str)) = false := by decide)
    (he : starEach (e :: es) X.env = (false, eval e X.env) :: starEach es X.env := by rfl) (hpl : (backTo pos (starEach es X.env)).any (·.1) = false := by rfl) : SE X cl W (.Call (.Name x p) (e :: es) [] pos) (eOpN g ms) :=
  PE.imp (pe_callB hc hg hm hv ha hn hdb he hpl) fun sg H Q ⟨mu, env, h, rel, p⟩ => ⟨mu, env, h, rel, (Post.bind p).mono fun b H1 ⟨mu1, d, h1, e, hr, rb, p1⟩ => ⟨mu1, h1, d, hr, rb, .of p1⟩⟩
theorem se_callT {T : String} {x : Str} {g : ON} (hc : CallR X (.type T) (rN X.K cl g)) (hm : X.mg x = none) (hv : bootBuiltins x = some (.type T)) (ha : SA X cl W (e :: es) ms) (hg : Gl X x := by rfl) (hn : x ≠ "__name__" := by decide) (hdb : (x == ("__debug__" : Str)) = false := by decide)
    (he : starEach (e :: es) X.env = (false, eval e X.env) :: starEach es X.env := by rfl) (hpl : (backTo pos (starEach es X.env)).any (·.1) = false := by rfl) : SE X cl W (.Call (.Name x p) (e :: es) [] pos) (eOpN g ms) :=
  PE.imp (pe_callTy hc hg hm hv ha hn hdb he hpl) fun sg H Q ⟨mu, env, h, rel, p⟩ => ⟨mu, env, h, rel, (Post.bind p).mono fun b H1 ⟨mu1, d, h1, e, hr, rb, p1⟩ => ⟨mu1, h1, d, hr, rb, .of p1⟩⟩
theorem rd_sql {K : PySem.W.Frag} {H : Hp} {a : Addr} {ys : List V} (h : Rd H a (.lst ys)) : SqL K H a ys := .inl h
theorem b_len : CallR X (.builtin "len") (rN X.K cl vLen) := by
  intro pins s σ H vs us Q I r ⟨mu, h, ds, hr, rd, p⟩
  cases rd with
  | nil => exact p.elim
  | @cons d v ds' vs' rd rest =>
    cases rest with
    | cons _ _ => cases d <;> exact p.elim
    | nil =>
      cases rd with
      | str x =>
        unfold vLen at p
        simp only at p
        split at p
        · rename_i hz
          exact call_len_str pins s σ H _ us Q I r ⟨x, rfl, hz, p _ _ _ (Ext.refl _ _) hr (.int _)⟩
        · exact p.elim
      | @sl a xs ds sa ra =>
        refine call_len_seq pins s σ H _ us Q I r ⟨a, xs, rfl, .inl sa.sql, ?_⟩
        rw [← ra.length]
        exact p _ _ _ (Ext.refl _ _) hr (.int _)
      | @tup a xs ds sa ra =>
        refine call_len_seq pins s σ H _ us Q I r ⟨a, xs, rfl, .inr sa, ?_⟩
        rw [← ra.length]
        exact p _ _ _ (Ext.refl _ _) hr (.int _)
      | @ref n a hn =>
        unfold vLen at p
        simp only at p
        cases q : seqOf (.ref n) h with
        | some xs =>
          rw [q] at p
          obtain ⟨a', ys, e1, ra, hh⟩ := seqOf_ok hr (.ref hn) q
          cases e1
          rcases hh with ⟨_, z⟩ | z
          · cases z
          · refine call_len_seq pins s σ H _ us Q I r ⟨a, ys, rfl, .inl z, ?_⟩
            rw [← ra.length]
            exact p _ _ _ (Ext.refl _ _) hr (.int _)
        | none =>
          rw [q] at p
          simp only at p
          split at p
          · rename_i kvs e1
            obtain ⟨a', ha', ks, g1, k1⟩ := hr.at e1
            rw [hn] at ha'; cases ha'
            refine call_lenD pins s σ H _ us Q I r ⟨a, ks, rfl, g1, ?_⟩
            have : ks.length = kvs.length := (Paired.length k1).symm
            rw [this]
            exact p _ _ _ (Ext.refl _ _) hr (.int _)
          · exact p.elim
      | _ => exact p.elim
theorem b_int : CallR X (.type "int") (rN X.K cl vInt) := by
  intro pins s σ H vs us Q I r ⟨mu, h, ds, hr, rd, p⟩
  cases rd with
  | nil => exact p.elim
  | @cons d v ds' vs' rd rest =>
    cases rest with
    | cons _ _ => cases d <;> exact p.elim
    | nil =>
      cases rd with
      | int i => exact call_int1 pins s σ H _ us Q I r (.inl ⟨i, rfl, p _ _ _ (Ext.refl _ _) hr (.int _)⟩)
      | bl b => exact call_int1 pins s σ H _ us Q I r (.inr ⟨b, rfl, p _ _ _ (Ext.refl _ _) hr (.int _)⟩)
      | _ => exact p.elim
theorem b_list : CallR X (.type "list") (rN X.K cl vList) := by
  intro pins s σ H vs us Q I r ⟨mu, h, ds, hr, rd, p⟩
  cases rd with
  | nil => exact p.elim
  | @cons d v ds' vs' rd rest =>
    cases rest with
    | cons _ _ => exact p.elim
    | nil =>
      unfold vList at p
      simp only at p
      cases q : seqOf d h with
      | none => rw [q] at p; exact p.elim
      | some xs =>
        rw [q] at p
        obtain ⟨a, ys, rfl, ra, hh⟩ := seqOf_ok hr rd q
        refine call_list_of pins s σ H _ us Q I r ⟨a, ys, rfl, ?_, fun l hl => ?_⟩
        · rcases hh with ⟨z, _⟩ | z
          · exact .inr z
          · exact .inl z
        · refine p _ _ _ (Ext.allocd hl) (hr.allocd hl ⟨_, upd_same, ra.mono (Ext.allocd hl)⟩) (.ref ?_)
          rw [← hr.len]; simp
theorem b_tuple : CallR X (.type "tuple") (rN X.K cl vTuple) := by
  intro pins s σ H vs us Q I r ⟨mu, h, ds, hr, rd, p⟩
  cases rd with
  | nil => exact p.elim
  | @cons d v ds' vs' rd rest =>
    cases rest with
    | cons _ _ => exact p.elim
    | nil =>
      unfold vTuple at p
      simp only at p
      cases q : seqOf d h with
      | none => rw [q] at p; exact p.elim
      | some xs =>
        rw [q] at p
        obtain ⟨a, ys, rfl, ra, hh⟩ := seqOf_ok hr rd q
        refine call_tuple_of pins s σ H _ us Q I r ⟨a, ys, rfl, ?_⟩
        rcases hh with ⟨z, _⟩ | z
        · exact .inr ⟨z, p _ _ _ (Ext.refl _ _) hr (.tup z ra)⟩
        · exact .inl ⟨z, fun l hl => p _ _ _ (Ext.tupled hl) (hr.tupled hl) (.tup (.inl (.inl upd_same)) (ra.mono (Ext.tupled hl)))⟩
theorem ints_ok {K : PySem.W.Frag} {H : Hp} {mu : List Addr} : ∀ {ds : List D} {xs : List V} {ns : List Int}, RpA K H mu ds xs → intsOf ds = some ns → xs = ns.map V.int
  | _, _, _, .nil, h => by cases h; rfl
  | d :: ds, _, ns, .cons a b, h => by
    cases a with
    | int i =>
      unfold intsOf at h
      cases q : intsOf ds with
      | none => rw [q] at h; cases h
      | some r => rw [q] at h; cases h; rw [ints_ok b q]; rfl
    | _ => cases h
theorem bls_ok {K : PySem.W.Frag} {H : Hp} {mu : List Addr} : ∀ {ds : List D} {xs : List V} {ns : List Bool}, RpA K H mu ds xs → blsOf ds = some ns → xs = ns.map V.bl
  | _, _, _, .nil, h => by cases h; rfl
  | d :: ds, _, ns, .cons a b, h => by
    cases a with
    | bl i =>
      unfold blsOf at h
      cases q : blsOf ds with
      | none => rw [q] at h; cases h
      | some r => rw [q] at h; cases h; rw [bls_ok b q]; rfl
    | _ => cases h
theorem foldl_max : ∀ (r : List Int) (x : Int), (r.foldl max x = x ∨ r.foldl max x ∈ r) ∧ x ≤ r.foldl max x ∧ ∀ y ∈ r, y ≤ r.foldl max x
  | [], x => ⟨.inl rfl, Int.le_refl _, fun _ h => nomatch h⟩
  | z :: r, x => by
    obtain ⟨h1, h2, h3⟩ := foldl_max r (max x z)
    rw [List.foldl_cons]
    refine ⟨?_, by omega, fun y hy => ?_⟩
    · rcases h1 with h1 | h1
      · by_cases hz : x ≤ z
        · right; rw [h1, Int.max_eq_right hz]; exact List.mem_cons_self
        · left; rw [h1]; omega
      · right; exact List.mem_cons_of_mem _ h1
    · rcases List.mem_cons.mp hy with e | e
      · subst e; omega
      · exact h3 y e
theorem foldl_min : ∀ (r : List Int) (x : Int), (r.foldl min x = x ∨ r.foldl min x ∈ r) ∧ r.foldl min x ≤ x ∧ ∀ y ∈ r, r.foldl min x ≤ y
  | [], x => ⟨.inl rfl, Int.le_refl _, fun _ h => nomatch h⟩
  | z :: r, x => by
    obtain ⟨h1, h2, h3⟩ := foldl_min r (min x z)
    rw [List.foldl_cons]
    refine ⟨?_, by omega, fun y hy => ?_⟩
    · rcases h1 with h1 | h1
      · by_cases hz : z ≤ x
        · right; rw [h1, Int.min_eq_right hz]; exact List.mem_cons_self
        · left; rw [h1]; omega
      · right; exact List.mem_cons_of_mem _ h1
    · rcases List.mem_cons.mp hy with e | e
      · subst e; omega
      · exact h3 y e
theorem maxI_eq {x : Int} {r : List Int} {m : Int} (h1 : m ∈ x :: r) (h2 : ∀ y ∈ x :: r, y ≤ m) : m = maxI (x :: r) := by
  obtain ⟨g1, g2, g3⟩ := foldl_max r x
  show m = r.foldl max x
  have a : r.foldl max x ≤ m := by
    rcases g1 with e | e
    · rw [e]; exact h2 _ List.mem_cons_self
    · exact h2 _ (List.mem_cons_of_mem _ e)
  have b : m ≤ r.foldl max x := by
    rcases List.mem_cons.mp h1 with e | e
    · rw [e]; exact g2
    · exact g3 _ e
  omega
theorem minI_eq {x : Int} {r : List Int} {m : Int} (h1 : m ∈ x :: r) (h2 : ∀ y ∈ x :: r, m ≤ y) : m = minI (x :: r) := by
  obtain ⟨g1, g2, g3⟩ := foldl_min r x
  show m = r.foldl min x
  have a : m ≤ r.foldl min x := by
    rcases g1 with e | e
    · rw [e]; exact h2 _ List.mem_cons_self
    · exact h2 _ (List.mem_cons_of_mem _ e)
  have b : r.foldl min x ≤ m := by
    rcases List.mem_cons.mp h1 with e | e
    · rw [e]; exact g2
    · exact g3 _ e
  omega
theorem b_max (hc : X.calm = true) : CallR X (.builtin "max") (rN X.K cl vMax) := by
  intro pins s σ H vs us Q I r ⟨mu, h, ds, hr, rd, p⟩
  have one : ∀ {d : D} {v : V} {us : List Value}, Rp X.K H mu d v → Vals [v] us → PostO X.K cl H mu (match (listOf1 d h).bind intsOf with | some (x :: r) => some (.int (maxI (x :: r)), h) | _ => none) Q →
      wpAny (model X.prog X.w) X.A (call (.builtin "max") us) (EP X pins σ Q) X.xe s := fun {d v us} rd r p => by
    cases q : listOf1 d h with
    | none => rw [q] at p; exact p.elim
    | some xs =>
      rw [q] at p
      simp only [Option.bind_some] at p
      obtain ⟨a, ys, rfl, g1, k1⟩ := listOf1_ok hr rd q
      cases q2 : intsOf xs with
      | none => rw [q2] at p; exact p.elim
      | some ns =>
        rw [q2] at p
        cases ns with
        | nil => exact p.elim
        | cons n r' =>
          have := ints_ok k1 q2
          subst this
          refine cr_max hc pins s σ H _ us Q I r ⟨a, n :: r', rfl, g1, by simp, fun m h1 h2 => ?_⟩
          rw [maxI_eq h1 h2]
          exact p _ _ _ (Ext.refl _ _) hr (.int _)
  cases rd with
  | nil => exact p.elim
  | @cons d v ds' vs' rd rest =>
    cases rest with
    | nil => cases rd <;> first | exact one (.int _) r p | exact p.elim | exact one (by assumption) r p | (rename_i hn; exact one (.ref hn) r p) | (rename_i sa ra; exact one (.sl sa ra) r p)
    | @cons d2 v2 _ _ rd2 rest2 =>
      cases rest2 with
      | nil =>
        cases rd with
        | int i =>
          cases rd2 with
          | int j => exact call_max2 hc pins s σ H _ us Q I r ⟨i, j, rfl, p _ _ _ (Ext.refl _ _) hr (.int _)⟩
          | _ => exact p.elim
        | _ => exact p.elim
      | cons _ _ => cases d <;> first | exact p.elim | (cases d2 <;> exact p.elim)
theorem b_min (hc : X.calm = true) : CallR X (.builtin "min") (rN X.K cl vMin) := by
  intro pins s σ H vs us Q I r ⟨mu, h, ds, hr, rd, p⟩
  have one : ∀ {d : D} {v : V} {us : List Value}, Rp X.K H mu d v → Vals [v] us → PostO X.K cl H mu (match (listOf1 d h).bind intsOf with | some (x :: r) => some (.int (minI (x :: r)), h) | _ => none) Q →
      wpAny (model X.prog X.w) X.A (call (.builtin "min") us) (EP X pins σ Q) X.xe s := fun {d v us} rd r p => by
    cases q : listOf1 d h with
    | none => rw [q] at p; exact p.elim
    | some xs =>
      rw [q] at p
      simp only [Option.bind_some] at p
      obtain ⟨a, ys, rfl, g1, k1⟩ := listOf1_ok hr rd q
      cases q2 : intsOf xs with
      | none => rw [q2] at p; exact p.elim
      | some ns =>
        rw [q2] at p
        cases ns with
        | nil => exact p.elim
        | cons n r' =>
          have := ints_ok k1 q2
          subst this
          refine cr_min hc pins s σ H _ us Q I r ⟨a, n :: r', rfl, g1, by simp, fun m h1 h2 => ?_⟩
          rw [minI_eq h1 h2]
          exact p _ _ _ (Ext.refl _ _) hr (.int _)
  cases rd with
  | nil => exact p.elim
  | @cons d v ds' vs' rd rest =>
    cases rest with
    | nil => cases rd <;> first | exact one (.int _) r p | exact p.elim | exact one (by assumption) r p | (rename_i hn; exact one (.ref hn) r p) | (rename_i sa ra; exact one (.sl sa ra) r p)
    | @cons d2 v2 _ _ rd2 rest2 =>
      cases rest2 with
      | nil =>
        cases rd with
        | int i =>
          cases rd2 with
          | int j => exact call_min2 hc pins s σ H _ us Q I r ⟨i, j, rfl, p _ _ _ (Ext.refl _ _) hr (.int _)⟩
          | _ => exact p.elim
        | _ => exact p.elim
      | cons _ _ => cases d <;> first | exact p.elim | (cases d2 <;> exact p.elim)
theorem b_any (hc : X.calm = true) : CallR X (.builtin "any") (rN X.K cl vAny) := by
  intro pins s σ H vs us Q I r ⟨mu, h, ds, hr, rd, p⟩
  cases rd with
  | nil => exact p.elim
  | @cons d v ds' vs' rd rest =>
    cases rest with
    | cons _ _ => exact p.elim
    | nil =>
      unfold vAny at p
      simp only at p
      cases q : listOf1 d h with
      | none => rw [q] at p; exact p.elim
      | some xs =>
        rw [q] at p
        simp only [Option.bind_some] at p
        obtain ⟨a, ys, rfl, g1, k1⟩ := listOf1_ok hr rd q
        cases q2 : blsOf xs with
        | none => rw [q2] at p; exact p.elim
        | some ns =>
          rw [q2] at p
          have := bls_ok k1 q2
          subst this
          exact cr_any hc pins s σ H _ us Q I r ⟨a, ns, rfl, g1, p _ _ _ (Ext.refl _ _) hr (.bl _)⟩
theorem b_all (hc : X.calm = true) : CallR X (.builtin "all") (rN X.K cl vAll) := by
  intro pins s σ H vs us Q I r ⟨mu, h, ds, hr, rd, p⟩
  cases rd with
  | nil => exact p.elim
  | @cons d v ds' vs' rd rest =>
    cases rest with
    | cons _ _ => exact p.elim
    | nil =>
      unfold vAll at p
      simp only at p
      cases q : listOf1 d h with
      | none => rw [q] at p; exact p.elim
      | some xs =>
        rw [q] at p
        simp only [Option.bind_some] at p
        obtain ⟨a, ys, rfl, g1, k1⟩ := listOf1_ok hr rd q
        cases q2 : blsOf xs with
        | none => rw [q2] at p; exact p.elim
        | some ns =>
          rw [q2] at p
          have := bls_ok k1 q2
          subst this
          exact cr_all hc pins s σ H _ us Q I r ⟨a, ns, rfl, g1, p _ _ _ (Ext.refl _ _) hr (.bl _)⟩
end
end DS

set_option Elab.async false
set_option linter.all false
set_option maxRecDepth 100000
set_option maxHeartbeats 4000000
/-! DSE: isinstance, methods, slices, dicts, chains: the rules. -/
namespace DS
open PySem PySem.Spec PyProof.Rows L2
theorem kt_non : ∀ T : Ty, kitB "NoneType" T.name = some false := fun T => by cases T <;> decide +kernel
theorem kt_bl : ∀ T : Ty, kitB "bool" T.name = some (match T with | .bl => true | .int => true | _ => false) := fun T => by cases T <;> decide +kernel
theorem kt_int : ∀ T : Ty, kitB "int" T.name = some (match T with | .int => true | _ => false) := fun T => by cases T <;> decide +kernel
theorem kt_str : ∀ T : Ty, kitB "str" T.name = some (match T with | .str => true | _ => false) := fun T => by cases T <;> decide +kernel
theorem kt_tup : ∀ T : Ty, kitB "tuple" T.name = some (match T with | .tup => true | _ => false) := fun T => by cases T <;> decide +kernel
theorem kt_lst : ∀ T : Ty, kitB "list" T.name = some (match T with | .lst => true | _ => false) := fun T => by cases T <;> decide +kernel
theorem kt_dct : ∀ T : Ty, kitB "dict" T.name = some (match T with | .dct => true | _ => false) := fun T => by cases T <;> decide +kernel
theorem isi_ok {K : PySem.W.Frag} {cl : CW} {H : Hp} {mu : List Addr} {h : Hs} {d : D} {v : V} {T : Ty} {b : Bool} (hr : HR K H mu cl h) (r : Rp K H mu d v) (e : isiD T d h = some b) : ∃ t, TyX K H v t ∧ PySem.W.kitOne K t (.type T.name) = some b := by
  cases r with
  | non => cases e; exact ⟨_, .base .non, kit_ty (kt_non T)⟩
  | bl x => cases e; exact ⟨_, .base (.bl x), kit_ty (kt_bl T)⟩
  | int x => cases e; exact ⟨_, .base (.int x), kit_ty (kt_int T)⟩
  | str x => cases e; exact ⟨_, .base (.str x), kit_ty (kt_str T)⟩
  | tup s ra =>
    cases e
    refine ⟨.type "tuple", ?_, kit_ty (kt_tup T)⟩
    rcases s with (s | ⟨o, s⟩) | ⟨o, its, n, k1, k2, _⟩
    · exact .base (.tup s)
    · exact .fTuple s
    · exact .kTuple k1 k2
  | sl s ra => cases e
  | @ref n a hn =>
    unfold isiD at e
    simp only at e
    split at e
    · rename_i xs q
      cases e
      obtain ⟨a', ha', ys, g1, k1⟩ := hr.at q
      rw [hn] at ha'; cases ha'
      exact ⟨_, .base (.lst g1), kit_ty (kt_lst T)⟩
    · rename_i xs q
      cases e
      obtain ⟨a', ha', ys, g1, k1⟩ := hr.at q
      rw [hn] at ha'; cases ha'
      exact ⟨_, .base (.dK g1), kit_ty (kt_dct T)⟩
    · cases e
section
variable {X : Cx} {cl : CW} {W : WX} {a b c e o i : Expr} {es : List Expr} {ma mb mc : ME} {mt mu' : MT} {ms : MA} {pos p p2 p3 : Pos}
theorem se_isi {T : Ty} {x : Str} (hm : X.mg "isinstance" = none) (hmT : X.mg x = none) (hvT : bootBuiltins x = some (.type T.name)) (ha : SE X cl W e ma) (hg : Gl X "isinstance" := by rfl) (hgT : Gl X x := by rfl)
    (hnT : x ≠ "__name__" := by decide) (hdT : (x == ("__debug__" : Str)) = false := by decide)
    (hs0 : starEach [e, .Name x p2] X.env = (false, eval e X.env) :: starEach [.Name x p2] X.env := by rfl) (hs1 : starEach [.Name x p2] X.env = (false, eval (.Name x p2) X.env) :: starEach [] X.env := by rfl)
    (hpl : (backTo pos (starEach [.Name x p2] X.env)).any (·.1) = false := by rfl) : SE X cl W (.Call (.Name "isinstance" p) [e, .Name x p2] [] pos) (eIsi T ma) :=
  PE.imp (pe_callB call_isi hg hm (by decide +kernel) (pa_cons ha (pa_cons (pe_bltn (v := .ty T.name) hgT hmT hvT rfl hnT hdT) pa_nil hs1) hs0) (by decide) (by decide) hs0 hpl) fun sg H Q ⟨mu, env, h, rel, p⟩ =>
    ⟨mu, env, h, rel, (Post.bind p).mono fun b H1 ⟨mu1, d, h1, e, hr, rb, p1⟩ => by
      have p1 := PostO.of p1
      cases q : isiD T d h1 with
      | none => rw [q] at p1; exact p1.elim
      | some r =>
        rw [q] at p1
        obtain ⟨t, h1', h2⟩ := isi_ok hr rb q
        exact ⟨b, .ty T.name, t, .type T.name, r, rfl, .ty _, h1', h2, p1 _ _ _ (Ext.refl _ _) hr (.bl r)⟩⟩
/-! ### methods of lists -/
def rM (K : PySem.W.Frag) (cl : CW) (g : OM) : V → List V → Hp → VK → Prop := fun x xs H Q => ∃ mu h d ds, HR K H mu cl h ∧ Rp K H mu d x ∧ RpA K H mu ds xs ∧ PostO K cl H mu (g d ds h) Q
theorem isL_ok {K : PySem.W.Frag} {H : Hp} {mu : List Addr} {h : Hs} {d : D} {v : V} (hr : HR K H mu cl h) (r : Rp K H mu d v) (q : isL d h = true) : tyV K "list" v H := by
  unfold isL at q
  obtain ⟨xs, e⟩ := Option.isSome_iff_exists.mp q
  obtain ⟨a, ys, rfl, h1, h2⟩ := listOf1_ok hr r e
  exact .inl ⟨rfl, ys, h1⟩
theorem se_ml {name : Str} {id : String} {g : OM} {apos cpos : Pos} (slot : Slot "list" name id) (hty : typeOf (.builtin id) = pure (.type "method_descriptor")) (hm : MtR X id (rM X.K cl g)) (ho : SE X cl W o ma) (ha : SA X cl W (e :: es) ms)
    (hbase : attributeBase o name X.env (eval o X.env) = eval o X.env := by rfl)
    (hfew : ((backTo cpos (starEach (e :: es) X.env)).all (fun x => !x.1) && (backToKw cpos (keywordEach [] X.env)).all (fun x => x.1.isSome)
      && decide ((e :: es).length + ([] : List Keyword).length + (if ([] : List Keyword).isEmpty then 0 else 1) < 30)) = true := by rfl)
    (hline : (apos.endLine == cpos.line) = true := by rfl) (hs : starEach (e :: es) X.env = (false, eval e X.env) :: starEach es X.env := by rfl) (hplain : (backTo cpos (starEach es X.env)).any (·.1) = false := by rfl) :
    SE X cl W (.Call (.Attribute o name apos) (e :: es) [] cpos) (eMethL g ma ms) :=
  PE.imp (pe_bm PySem.F.plainAttrs_list slot hty hm ho ha hbase hfew hline hs hplain) fun sg H Q ⟨mu, env, h, rel, p⟩ =>
    ⟨mu, env, h, rel, (Post.bind p).mono fun b H1 ⟨mu1, d, h1, e, hr, rb, p1⟩ => by
      split at p1
      · rename_i hl
        refine ⟨isL_ok hr rb hl, mu1, env, h1, ⟨hr, rel.er.mono e⟩, (Post.bind p1).mono fun b2 H2 ⟨mu2, d2, h2, e2, hr2, rb2, p2⟩ => ?_⟩
        exact ⟨mu2, h2, d, d2, hr2, rb.mono e2, rb2, .of p2⟩
      · exact p1.elim⟩
theorem se_ml0 {name : Str} {id : String} {g : OM} {apos cpos : Pos} (slot : Slot "list" name id) (hty : typeOf (.builtin id) = pure (.type "method_descriptor")) (hm : MtR X id (rM X.K cl g)) (ho : SE X cl W o ma)
    (hbase : attributeBase o name X.env (eval o X.env) = eval o X.env := by rfl) (hline : (apos.endLine == cpos.line) = true := by rfl) :
    SE X cl W (.Call (.Attribute o name apos) [] [] cpos) (eMethL g ma aNil) :=
  PE.imp (pe_bm0 PySem.F.plainAttrs_list slot hty hm ho hbase hline) fun sg H Q ⟨mu, env, h, rel, p⟩ =>
    ⟨mu, env, h, rel, (Post.bind p).mono fun b H1 ⟨mu1, d, h1, e, hr, rb, p1⟩ => by
      split at p1
      · rename_i hl
        exact ⟨isL_ok hr rb hl, mu1, h1, d, [], hr, rb, .nil, .of p1⟩
      · exact p1.elim⟩
theorem m_append : MtR X "list.append" (rM X.K cl vAppend) := by
  intro pins s σ H x xs v us Q I rx rxs ⟨mu, h, d, ds, hr, rd, rds, p⟩
  cases rd with
  | @ref n a hn =>
    cases rds with
    | nil => exact p.elim
    | @cons d1 v1 _ _ rd1 rest =>
      cases rest with
      | cons _ _ => exact p.elim
      | nil =>
        unfold vAppend at p
        simp only at p
        split at p
        · rename_i ys q
          split at p
          · rename_i hz
            obtain ⟨a', ha', zs, g1, k1⟩ := hr.at q
            rw [hn] at ha'; cases ha'
            refine mt_append pins s σ H _ _ v us Q I rx rxs ⟨a, zs, v1, rfl, rfl, g1, by rw [← k1.length]; exact hz, ?_⟩
            have E : Ext H mu (upd H a (.lst (zs ++ [v1]))) mu := Ext.written hn g1 (by intro _ z; cases z) (fun z => z)
            exact p _ _ _ E (hr.written hn g1 (by intro _ z; cases z) (fun z => z) ⟨_, upd_same, (k1.append (.one rd1)).mono E⟩) .non
          · exact p.elim
        · exact p.elim
  | _ => exact p.elim
theorem m_extend : MtR X "list.extend" (rM X.K cl vExtend) := by
  intro pins s σ H x xs v us Q I rx rxs ⟨mu, h, d, ds, hr, rd, rds, p⟩
  cases rd with
  | @ref n a hn =>
    cases rds with
    | nil => exact p.elim
    | @cons d1 v1 _ _ rd1 rest =>
      cases rest with
      | cons _ _ => cases d1 <;> exact p.elim
      | nil =>
        cases rd1 with
        | @ref m b hm =>
          unfold vExtend at p
          simp only at p
          split at p
          · rename_i ys ws q1 q2
            split at p
            · rename_i hz
              obtain ⟨a', ha', zs, g1, k1⟩ := hr.at q1
              rw [hn] at ha'; cases ha'
              obtain ⟨b', hb', ts, g2, k2⟩ := hr.at q2
              rw [hm] at hb'; cases hb'
              refine mt_extend pins s σ H _ _ v us Q I rx rxs ⟨a, b, zs, ts, rfl, rfl, g1, g2, by rw [← k1.length, ← k2.length]; exact hz, ?_⟩
              have E : Ext H mu (upd H a (.lst (zs ++ ts))) mu := Ext.written hn g1 (by intro _ z; cases z) (fun z => z)
              exact p _ _ _ E (hr.written hn g1 (by intro _ z; cases z) (fun z => z) ⟨_, upd_same, (k1.append k2).mono E⟩) .non
            · exact p.elim
          · exact p.elim
        | _ => exact p.elim
  | _ => exact p.elim
theorem m_pop : MtR X "list.pop" (rM X.K cl vPop) := by
  intro pins s σ H x xs v us Q I rx rxs ⟨mu, h, d, ds, hr, rd, rds, p⟩
  cases rd with
  | @ref n a hn =>
    cases rds with
    | cons _ _ => exact p.elim
    | nil =>
      unfold vPop at p
      simp only at p
      split at p
      · rename_i ys q
        split at p
        · rename_i y hy
          obtain ⟨a', ha', zs, g1, k1⟩ := hr.at q
          rw [hn] at ha'; cases ha'
          obtain ⟨w, hw, rw'⟩ := k1.get hy
          rw [k1.length] at hw
          refine mt_pop pins s σ H _ _ v us Q I rx rxs ⟨a, zs, w, rfl, rfl, g1, hw, ?_⟩
          have E : Ext H mu (upd H a (.lst zs.dropLast)) mu := Ext.written hn g1 (by intro _ z; cases z) (fun z => z)
          exact p _ _ _ E (hr.written hn g1 (by intro _ z; cases z) (fun z => z) ⟨_, upd_same, k1.dropLast.mono E⟩) (rw'.mono E)
        · exact p.elim
      · exact p.elim
  | _ => exact p.elim
theorem se_append {apos cpos : Pos} (ho : SE X cl W o ma) (ha : SA X cl W [e] ms)
    (hbase : attributeBase o "append" X.env (eval o X.env) = eval o X.env := by rfl)
    (hfew : ((backTo cpos (starEach [e] X.env)).all (fun x => !x.1) && (backToKw cpos (keywordEach [] X.env)).all (fun x => x.1.isSome)
      && decide ([e].length + ([] : List Keyword).length + (if ([] : List Keyword).isEmpty then 0 else 1) < 30)) = true := by rfl)
    (hline : (apos.endLine == cpos.line) = true := by rfl) (hs : starEach [e] X.env = (false, eval e X.env) :: starEach [] X.env := by rfl) :
    SE X cl W (.Call (.Attribute o "append" apos) [e] [] cpos) (eMethL vAppend ma ms) := se_ml PySem.F.slot_list_append PySem.F.type_list_append m_append ho ha hbase hfew hline hs
theorem se_extend {apos cpos : Pos} (ho : SE X cl W o ma) (ha : SA X cl W [e] ms)
    (hbase : attributeBase o "extend" X.env (eval o X.env) = eval o X.env := by rfl)
    (hfew : ((backTo cpos (starEach [e] X.env)).all (fun x => !x.1) && (backToKw cpos (keywordEach [] X.env)).all (fun x => x.1.isSome)
      && decide ([e].length + ([] : List Keyword).length + (if ([] : List Keyword).isEmpty then 0 else 1) < 30)) = true := by rfl)
    (hline : (apos.endLine == cpos.line) = true := by rfl) (hs : starEach [e] X.env = (false, eval e X.env) :: starEach [] X.env := by rfl) :
    SE X cl W (.Call (.Attribute o "extend" apos) [e] [] cpos) (eMethL vExtend ma ms) := se_ml PySem.F.slot_list_extend PySem.F.type_list_extend m_extend ho ha hbase hfew hline hs
theorem se_pop {apos cpos : Pos} (ho : SE X cl W o ma) (hbase : attributeBase o "pop" X.env (eval o X.env) = eval o X.env := by rfl) (hline : (apos.endLine == cpos.line) = true := by rfl) :
    SE X cl W (.Call (.Attribute o "pop" apos) [] [] cpos) (eMethL vPop ma aNil) := se_ml0 PySem.F.slot_list_pop PySem.F.type_list_pop m_pop ho hbase hline

/-! ### slices -/
def tO (K : PySem.W.Frag) (cl : CW) (W : WX) (m : MO) : L2.TO := fun sg H Q => ∃ mu env h, Rel K cl H mu h env sg ∧ Post (fun _ _ a b => a = b) K cl W sg H mu (m env h) Q
abbrev SO (X : Cx) (cl : CW) (W : WX) (e : Option Expr) (m : MO) : Prop := PO X e (tO X.K cl W m)
theorem PO.imp {X : Cx} {e : Option Expr} {t t' : L2.TO} (h : PO X e t) (hi : ∀ sg H Q, t' sg H Q → t sg H Q) : PO X e t' := ⟨fun pins s σ H Q I q => h.run pins s σ H Q I (hi _ _ _ q)⟩
theorem so_none : SO X cl W none oNone := PO.imp po_none fun sg H Q ⟨mu, env, h, rel, p⟩ => p _ _ _ (Ext.refl _ _) rel.hr rfl
theorem so_some (ha : SE X cl W a ma) : SO X cl W (some a) (oSome ma) := PO.imp (po_some ha) fun sg H Q ⟨mu, env, h, rel, p⟩ =>
    ⟨mu, env, h, rel, (Post.bind p).mono fun b H1 ⟨mu1, d, h1, e, hr, rb, p1⟩ => by
      cases rb with
      | int i => exact ⟨i, rfl, p1 _ _ _ (Ext.refl _ _) hr rfl⟩
      | _ => exact p1.elim⟩
def rSl (K : PySem.W.Frag) (cl : CW) : V → Option Int → Option Int → Hp → VK → Prop := fun x lo hi H Q => ∃ mu h d, HR K H mu cl h ∧ Rp K H mu d x ∧ PostO K cl H mu (vSl d lo hi h) Q
theorem RpA.cut {K : PySem.W.Frag} {H : Hp} {mu : List Addr} {ds : List D} {vs : List V} (h : RpA K H mu ds vs) (lo hi : Option Int) : RpA K H mu (cut ds lo hi) (cutV vs lo hi) := by
  unfold DS.cut cutV
  rw [h.length]
  exact (h.drop _).take _
theorem o_sl : SlR X (rSl X.K cl) := by
  intro pins s σ H x v vl vu lo hi sl Q I rx hs pl pu ⟨mu, h, d, hr, rd, p⟩
  cases rd with
  | @tup a xs ds sa ra =>
    refine sl_tupA pins s σ H _ v vl vu lo hi sl Q I rx hs pl pu ⟨a, xs, rfl, sa, fun hw => ?_, fun hw q hq => ?_⟩
    · have e : DS.cut ds lo hi = ds := by
        unfold DS.cut
        rw [ra.length, hw.1, hw.2]
        simp only [List.drop_zero, Nat.sub_zero]
        exact List.take_of_length_le (by rw [ra.length]; exact Nat.le_refl _)
      have p : PostO X.K cl H mu (some (.tup (DS.cut ds lo hi), h)) Q := p
      rw [e] at p
      exact p _ _ _ (Ext.refl _ _) hr (.tup sa ra)
    · exact p _ _ _ (Ext.tupled hq) (hr.tupled hq) (.tup (.inl (.inl upd_same)) ((ra.cut lo hi).mono (Ext.tupled hq)))
  | @ref n a hn =>
    unfold vSl at p
    simp only at p
    cases q : listOf1 (.ref n) h with
    | none => rw [q] at p; exact p.elim
    | some xs =>
      rw [q] at p
      obtain ⟨a', ys, e1, h1, h2⟩ := listOf1_ok hr (.ref hn) q
      cases e1
      refine sl_list pins s σ H _ v vl vu lo hi sl Q I rx hs pl pu ⟨a, ys, rfl, h1, fun q hq => ?_⟩
      refine p _ _ _ (Ext.allocd hq) (hr.allocd hq ⟨_, upd_same, (h2.cut lo hi).mono (Ext.allocd hq)⟩) (.ref ?_)
      rw [← hr.len]; simp
  | @sl a xs ds sa ra =>
    refine sl_list pins s σ H _ v vl vu lo hi sl Q I rx hs pl pu ⟨a, xs, rfl, sa.sql, fun q hq => ?_⟩
    refine p _ _ _ (Ext.allocd hq) (hr.allocd hq ⟨_, upd_same, (ra.cut lo hi).mono (Ext.allocd hq)⟩) (.ref ?_)
    rw [← hr.len]; simp
  | _ => exact p.elim
theorem se_sl {lo hi : Option Expr} {ml mh : MO} (ha : SE X cl W a ma) (hl : SO X cl W lo ml) (hh : SO X cl W hi mh) : SE X cl W (.Subscript a (.Slice lo hi none p2) pos) (eSl ma ml mh) :=
  PE.imp (pe_slice o_sl ha hl hh) fun sg H Q ⟨mu, env, h, rel, p⟩ => ⟨mu, env, h, rel, (Post.bind p).mono fun b H1 ⟨mu1, d, h1, e, hr, rb, p1⟩ =>
    ⟨mu1, env, h1, ⟨hr, rel.er.mono e⟩, (Post.bind (rl := fun _ _ a b => a = b) p1).mono fun b2 H2 ⟨mu2, d2, h2, e2, hr2, rb2, p2⟩ =>
      ⟨mu2, env, h2, ⟨hr2, (rel.er.mono e).mono e2⟩, (Post.bind (rl := fun _ _ a b => a = b) p2).mono fun b3 H3 ⟨mu3, d3, h3, e3, hr3, rb3, p3⟩ => by
        subst rb2 rb3
        exact ⟨mu3, h3, d, hr3, (rb.mono e2).mono e3, .of p3⟩⟩⟩⟩

/-! ### chains, is -/
theorem o_is : OpR X (compareOp .Is) (r2 X.K cl vIsN) := by
  intro pins s σ H x y v u Q I rx ry ⟨mu, h, d, e, hr, rd, re, p⟩
  cases re with
  | non =>
    refine op_isN pins s σ H x _ v u Q I rx ry ⟨rfl, ?_⟩
    rw [isNon_ok rd]
    cases rd <;> exact p _ _ _ (Ext.refl _ _) hr (.bl _)
  | bl k =>
    cases rd with
    | bl j =>
      refine op_isBl pins s σ H _ _ v u Q I rx ry ⟨j, k, rfl, rfl, ?_⟩
      have := p _ _ _ (Ext.refl _ _) hr (.bl _)
      rw [show decide (j = k) = (j == k) by cases j <;> cases k <;> rfl]
      exact this
    | _ => exact p.elim
  | _ => cases rd <;> exact p.elim
theorem o_isNot : OpR X (compareOp .IsNot) (r2 X.K cl vNotN) := by
  intro pins s σ H x y v u Q I rx ry ⟨mu, h, d, e, hr, rd, re, p⟩
  cases re with
  | non =>
    refine op_notN pins s σ H x _ v u Q I rx ry ⟨rfl, ?_⟩
    rw [isNon_ok rd]
    cases rd <;> exact p _ _ _ (Ext.refl _ _) hr (.bl _)
  | bl k =>
    cases rd with
    | bl j =>
      refine op_notBl pins s σ H _ _ v u Q I rx ry ⟨j, k, rfl, rfl, ?_⟩
      have := p _ _ _ (Ext.refl _ _) hr (.bl _)
      rw [show decide (j = k) = (j == k) by cases j <;> cases k <;> rfl]
      exact this
    | _ => exact p.elim
  | _ => cases rd <;> exact p.elim
theorem stepCh {g g' : O2} : ∀ (sg : Sg) (H : Hp) (Q : VK), tE X.K cl W (eChain g g' ma mb mc) sg H Q → tChain (r2 X.K cl g) (r2 X.K cl g') (tE X.K cl W ma) (tE X.K cl W mb) (tE X.K cl W mc) sg H Q :=
  fun sg H Q ⟨mu, env, h, rel, p⟩ => ⟨mu, env, h, rel, (Post.bind p).mono fun b H1 ⟨mu1, d, h1, e, hr, rb, p1⟩ =>
    ⟨mu1, env, h1, ⟨hr, rel.er.mono e⟩, (Post.bind p1).mono fun b2 H2 ⟨mu2, d2, h2, e2, hr2, rb2, p2⟩ => by
      refine ⟨mu2, h2, d, d2, hr2, rb.mono e2, rb2, ?_⟩
      have p2 := Post.bind (rl := Rp X.K) p2
      refine .of (p2.mono fun b3 H3 ⟨mu3, d3, h3, e3, hr3, rb3, p3⟩ => ?_)
      cases rb3 with
      | bl k =>
        refine ⟨k, rfl, ?_⟩
        cases k with
        | true =>
          refine ⟨mu3, env, h3, ⟨hr3, ((rel.er.mono e).mono e2).mono e3⟩, (Post.bind p3).mono fun b4 H4 ⟨mu4, d4, h4, e4, hr4, rb4, p4⟩ => ?_⟩
          exact ⟨mu4, h4, d2, d4, hr4, (rb2.mono e3).mono e4, rb4, .of p4⟩
        | false => exact p3 _ _ _ (Ext.refl _ _) hr3 (.bl _)
      | _ => exact p3.elim⟩⟩
theorem se_chain {op op' : CmpOp} {g g' : O2} (ho : OpR X (compareOp op) (r2 X.K cl g)) (ho' : OpR X (compareOp op') (r2 X.K cl g')) (ha : SE X cl W a ma) (hb : SE X cl W b mb) (hc : SE X cl W c mc)
    (hm : lastMarks [op, op'] [b, c] = false := by with_unfolding_all rfl) : SE X cl W (.Compare a [op, op'] [b, c] pos) (eChain g g' ma mb mc) := PE.imp (pe_chain ho ho' ha hb hc hm) stepCh
theorem st_chain {op op' : CmpOp} {g g' : O2} (ho : OpR X (compareOp op) (r2 X.K cl g)) (ho' : OpR X (compareOp op') (r2 X.K cl g')) (ha : SE X cl W a ma) (hb : SE X cl W b mb) (hc : SE X cl W c mc)
    (hm : lastMarks [op, op'] [b, c] = false := by with_unfolding_all rfl) : ST X cl W (.Compare a [op, op'] [b, c] pos) (tsB (eChain g g' ma mb mc)) := PT.imp (pt_chain ho ho' ha hb hc hm) (stepB stepCh)

/-! ### dicts -/
theorem keyD_ok {K : PySem.W.Frag} {H : Hp} {mu : List Addr} {d : D} {v : V} {k : Key} (r : Rp K H mu d v) (e : keyD d = some k) : v = kV k := by
  cases r with
  | int i => cases e; rfl
  | str i => cases e; rfl
  | _ => cases e
theorem getK_ok {K : PySem.W.Frag} {H : Hp} {mu : List Addr} {κ : Type} [DecidableEq κ] {k : κ} {d : D} : ∀ {kvs : List (κ × D)} {ks : List (κ × V)}, RpP K H mu kvs ks → getK kvs k = some d → ∃ v, valV ks k = some v ∧ Rp K H mu d v
  | _, _, .nil, h => by cases h
  | (q, x) :: r, (q', y) :: r', .cons ⟨e, a⟩ b, h => by
    have e : q = q' := e
    subst e
    by_cases hq : q = k
    · subst hq
      simp only [getK, List.find?_cons, decide_true, Option.map_some, Option.some.injEq] at h
      subst h
      exact ⟨y, valV_pos rfl, a⟩
    · have h' : getK r k = some d := by
        simpa [getK, List.find?_cons, hq] using h
      obtain ⟨v, h1, h2⟩ := getK_ok b h'
      exact ⟨v, by rw [valV_neg hq]; exact h1, h2⟩
theorem se_dget (hu : X.A.units + 1 < cLine) (ho : SE X cl W o ma) (hi : SE X cl W i mb) (hs : NoSl i := by exact fun _ _ => rfl) : SE X cl W (.Subscript o i pos) (eOp2 vDGet ma mb) :=
  PE.imp (pe_dget hu ho hi hs) fun sg H Q ⟨mu, env, h, rel, p⟩ => ⟨mu, env, h, rel, (Post.bind p).mono fun b H1 ⟨mu1, d, h1, e, hr, rb, p1⟩ =>
    ⟨mu1, env, h1, ⟨hr, rel.er.mono e⟩, (Post.bind p1).mono fun b2 H2 ⟨mu2, d2, h2, e2, hr2, rb2, p2⟩ => by
      have p2 := PostO.of p2
      have rb := rb.mono e2
      cases rb with
      | @ref n a hn =>
        unfold vDGet at p2
        simp only at p2
        split at p2
        · rename_i kvs q
          obtain ⟨a', ha', ks, g1, k1⟩ := hr2.at q
          rw [hn] at ha'; cases ha'
          cases q2 : keyD d2 with
          | none => rw [q2] at p2; exact p2.elim
          | some k =>
            rw [q2] at p2
            simp only [Option.bind_some] at p2
            cases q3 : getK kvs k with
            | none => rw [q3] at p2; exact p2.elim
            | some z =>
              rw [q3] at p2
              obtain ⟨w, h1, h2⟩ := getK_ok k1 q3
              refine ⟨a, w, rfl, ?_, p2 _ _ _ (Ext.refl _ _) hr2 h2⟩
              rw [keyD_ok rb2 q2, ← h1]
              exact DGet.k g1
        · exact p2.elim
      | _ => exact p2.elim⟩⟩
/-- a written dict with text keys -/
def KTab (K : PySem.W.Frag) (w : World) (mg : Str → Option Value) (x : Str) (tab : List (Str × D)) : Prop := ∃ p, mg x = some (.ref p) ∧ ∀ z d, tab.lookup z = some d → ∃ v, KDct K w p z v ∧ ∀ H mu, Rp K H mu d v
theorem se_kget {x : Str} {tab : List (Str × D)} (hk : KTab X.K X.w X.mg x tab) (hb : SE X cl W i mb) (hg : Gl X x := by rfl) (hd : (x == ("__debug__" : Str)) = false := by decide) (hs : PlainIx i := by exact fun _ _ => rfl) : SE X cl W (.Subscript (.Name x p) i pos) (eKGet tab mb) := by
  obtain ⟨q, hm, ht⟩ := hk
  refine PE.imp (pe_ix ix_kdict (pe_glob (v := .ref q) hg hm rfl hd) hb hs) fun sg H Q ⟨mu, env, h, rel, p⟩ => ⟨mu, env, h, rel, (Post.bind p).mono fun b H1 ⟨mu1, d, h1, e, hr, rb, p1⟩ => ?_⟩
  cases rb with
  | str z =>
    simp only at p1
    cases q2 : tab.lookup z with
    | none => rw [q2] at p1; exact p1.elim
    | some d =>
      rw [q2] at p1
      obtain ⟨v, h1, h2⟩ := ht z d q2
      exact ⟨q, z, v, rfl, rfl, h1, p1 _ _ _ (Ext.refl _ _) hr (h2 _ _)⟩
  | _ => exact p1.elim
theorem setK_ok {K : PySem.W.Frag} {H : Hp} {mu : List Addr} {κ : Type} [DecidableEq κ] {k : κ} {d : D} {v : V} (r : Rp K H mu d v) {kvs : List (κ × D)} {ks : List (κ × V)} (h : RpP K H mu kvs ks) : RpP K H mu (setK kvs k d) (putK ks k v) := by
  have hany : ∀ {kvs : List (κ × D)} {ks : List (κ × V)}, RpP K H mu kvs ks → (kvs.any fun kv => decide (kv.1 = k)) = (ks.any fun kv => decide (kv.1 = k)) := by
    intro kvs ks h
    induction h with
    | nil => rfl
    | cons a b ih =>
      obtain ⟨e, _⟩ := a
      rw [List.any_cons, List.any_cons, ih, e]
  have hmap : ∀ {kvs : List (κ × D)} {ks : List (κ × V)}, RpP K H mu kvs ks → RpP K H mu (kvs.map (fun kv => if kv.1 = k then (kv.1, d) else kv)) (ks.map (fun kv => if kv.1 = k then (kv.1, v) else kv)) := by
    intro kvs ks h
    induction h with
    | nil => exact .nil
    | @cons p q _ _ a b ih =>
      obtain ⟨e, a⟩ := a
      rw [List.map_cons, List.map_cons]
      refine .cons ?_ ih
      rw [e]
      split
      · exact ⟨rfl, r⟩
      · exact ⟨e, a⟩
  have happ : ∀ {kvs : List (κ × D)} {ks : List (κ × V)}, RpP K H mu kvs ks → RpP K H mu (kvs ++ [(k, d)]) (ks ++ [(k, v)]) := by
    intro kvs ks h
    induction h with
    | nil => exact .cons ⟨rfl, r⟩ .nil
    | cons a b ih => exact .cons a ih
  unfold setK putK
  rw [hany h]
  split
  · exact hmap h
  · exact happ h
theorem mergeK_ok {K : PySem.W.Frag} {H : Hp} {mu : List Addr} {more : List (Key × D)} {mv : List (Key × V)} (hm : RpP K H mu more mv) : ∀ {kvs : List (Key × D)} {ks : List (Key × V)}, RpP K H mu kvs ks →
    RpP K H mu (more.foldl (fun acc kv => setK acc kv.1 kv.2) kvs) (mv.foldl (fun acc kv => putK acc kv.1 kv.2) ks) := by
  induction hm with
  | nil => exact fun h => h
  | @cons p q _ _ a b ih =>
    intro kvs ks h
    rw [List.foldl_cons, List.foldl_cons]
    obtain ⟨e, a⟩ := a
    rw [← e]
    exact ih (setK_ok a h)
/-- pairs of a display -/
inductive SPs (X : Cx) (cl : CW) (W : WX) (pos : Pos) : List (Option Expr) → List Expr → List (ME × ME) → Prop
  | nil : SPs X cl W pos [] [] []
  | cons {k v : Expr} {ks : List (Option Expr)} {vs : List Expr} {mk mv : ME} {r : List (ME × ME)} (hk : SE X cl W k mk) (hv : SE X cl W v mv) (hr : SPs X cl W pos ks vs r) : SPs X cl W pos (some k :: ks) (v :: vs) ((mk, mv) :: r)
theorem SPs.pps {ks : List (Option Expr)} {vs : List Expr} {r : List (ME × ME)} (h : SPs X cl W pos ks vs r) : PPs X pos ks vs (r.map fun p => (tE X.K cl W p.1, tE X.K cl W p.2)) := by
  induction h with
  | nil => exact pps_nil
  | cons hk hv _ ih => exact pps_cons hk hv ih
theorem tPairs_ok : ∀ (r : List (ME × ME)) (sg : Sg) (H : Hp) (mu : List Addr) (env : En) (h : Hs) (Q : List (V × V) → Hp → Prop), Rel X.K cl H mu h env sg →
    Post (fun H mu (a : List (D × D)) (b : List (V × V)) => Paired (fun (p : D × D) (q : V × V) => Rp X.K H mu p.1 q.1 ∧ Rp X.K H mu p.2 q.2) a b) X.K cl W sg H mu (ePairs r env h) Q → tPairs (r.map fun p => (tE X.K cl W p.1, tE X.K cl W p.2)) sg H Q
  | [], sg, H, mu, env, h, Q, rel, p => p _ _ _ (Ext.refl _ _) rel.hr .nil
  | (a, b) :: r, sg, H, mu, env, h, Q, rel, p => by
    refine ⟨mu, env, h, rel, (Post.bind p).mono fun b H1 ⟨mu1, d, h1, e, hr, rb, p1⟩ => ⟨mu1, env, h1, ⟨hr, rel.er.mono e⟩, (Post.bind p1).mono fun b2 H2 ⟨mu2, d2, h2, e2, hr2, rb2, p2⟩ => ?_⟩⟩
    refine tPairs_ok r sg H2 mu2 env h2 _ ⟨hr2, (rel.er.mono e).mono e2⟩ ((Post.bind p2).mono fun b3 H3 ⟨mu3, d3, h3, e3, hr3, rb3, p3⟩ => ?_)
    exact p3 _ _ _ (Ext.refl _ _) hr3 (.cons ⟨(rb.mono e2).mono e3, rb2.mono e3⟩ rb3)
theorem keysOf_ok {K : PySem.W.Frag} {H : Hp} {mu : List Addr} : ∀ {rs : List (D × D)} {qs : List (V × V)} {kvs : List (Key × D)}, Paired (fun (p : D × D) (q : V × V) => Rp K H mu p.1 q.1 ∧ Rp K H mu p.2 q.2) rs qs → keysOf rs = some kvs →
    ∃ ks : List (Key × V), qs = ks.map (fun kv => (kV kv.1, kv.2)) ∧ RpP K H mu kvs ks
  | _, _, _, .nil, h => by cases h; exact ⟨[], rfl, .nil⟩
  | (k, v) :: r, (q, w) :: r', kvs, .cons ⟨a1, a2⟩ b, h => by
    unfold keysOf at h
    cases q1 : keyD k with
    | none => rw [q1] at h; cases h
    | some z =>
      rw [q1] at h
      simp only [Option.bind_some] at h
      cases q2 : keysOf r with
      | none => rw [q2] at h; cases h
      | some zs =>
        rw [q2] at h
        cases h
        obtain ⟨ks, e1, e2⟩ := keysOf_ok b q2
        subst e1
        refine ⟨(z, w) :: ks, ?_, .cons ⟨rfl, a2⟩ e2⟩
        rw [List.map_cons]
        have : q = kV z := keyD_ok a1 q1
        rw [← this]
theorem se_dict {keys : List (Option Expr)} {values : List Expr} {r : List (ME × ME)} (h : SPs X cl W pos keys values r) (hall : keys.all (·.isSome) = true := by rfl) (hl : keys.length = values.length := by rfl) (h0 : keys ≠ [] := by exact fun z => by cases z)
    (h15 : keys.length ≤ 15 := by decide) : SE X cl W (.Dict keys values pos) (eDict r) :=
  PE.imp (pe_disp h.pps hall hl h0 h15) fun sg H Q ⟨mu, env, h, rel, p⟩ q hq => by
    have nq : q ∉ mu := rel.hr.fresh hq
    have E0 : Ext H mu (upd H q (.dK [])) mu := Ext.tupled hq
    refine tPairs_ok r sg _ mu env h _ ⟨rel.hr.tupled hq, rel.er.mono E0⟩ ?_
    unfold eDict at p
    cases q0 : ePairs r env h with
    | ok a h' =>
      rw [q0] at p
      intro b H' mu' e' hr rb
      have nq' : q ∉ mu' := fun hm => by
        have := e'.new q hm nq _ upd_same
        cases this
      have hq' : H' q = some (.dK []) := e'.frame q _ upd_same nq rfl
      simp only [bind_ok] at p
      cases q1 : keysOf a with
      | none => rw [q1] at p; exact p.elim
      | some kvs =>
        rw [q1] at p
        simp only at p
        split at p
        · rename_i hz
          obtain ⟨ks, e1, e2⟩ := keysOf_ok rb q1
          refine ⟨hq', ks, e1, by rw [← Paired.length e2]; exact hz, ?_⟩
          have M : Mo H' mu' (upd H' q (.dK (mergeK [] ks))) (mu' ++ [q]) := ⟨fun a xs e => by
            have : a ≠ q := fun z => by subst z; rw [hq'] at e; cases e
            rw [upd_ne this]; exact e, fun a x w e => by
            have : a ≠ q := fun z => by subst z; rw [hq'] at e; cases e; exact w
            rw [upd_ne this]; exact e, List.prefix_append _ _⟩
          refine p _ _ _ ((E0.trans e').joined hq) (hr.joined nq' (fun _ z => by rw [hq'] at z; cases z) (fun _ st z => by rw [hq'] at z; cases z; exact st) ⟨_, upd_same, (mergeK_ok e2 .nil).mo M⟩) (.ref ?_)
          rw [← hr.len]; simp
        · exact p.elim
    | exc x h' =>
      rw [q0] at p
      exact fun c dd H' mu' e' hr hx => p c dd H' mu' (E0.trans e') hr hx
    | bad => rw [q0] at p; exact p
end
end DS

set_option Elab.async false
set_option linter.all false
set_option maxRecDepth 100000
set_option maxHeartbeats 4000000
/-! DSF: statements, targets. -/
namespace DS
open PySem PySem.Spec PyProof.Rows L2

inductive RS where
  | nx (e : En) (h : Hs)
  | ret (d : D) (h : Hs)
  | bk (e : En) (h : Hs)
  | ct (e : En) (h : Hs)
  | exc (x : Ex) (e : En) (h : Hs)
  | bad
abbrev MS := En → Hs → RS
/-- a target -/
abbrev MG := D → En → Hs → R En
abbrev MGs := List D → En → Hs → R En

def ofR {α : Type} (env : En) (r : R α) (k : α → Hs → RS) : RS :=
  match r with
  | .ok a h => k a h
  | .exc x h => .exc x env h
  | .bad => .bad
@[simp] theorem ofR_ok {α : Type} (env : En) (a : α) (h : Hs) (k : α → Hs → RS) : ofR env (.ok a h) k = k a h := rfl
@[simp] theorem ofR_exc {α : Type} (env : En) (x : Ex) (h : Hs) (k : α → Hs → RS) : ofR env (.exc x h : R α) k = .exc x env h := rfl
@[simp] theorem ofR_bad {α : Type} (env : En) (k : α → Hs → RS) : ofR env (.bad : R α) k = .bad := rfl
def sExpr (a : ME) : MS := fun env h => ofR env (a env h) fun _ h1 => .nx env h1
def sRet (a : ME) : MS := fun env h => ofR env (a env h) fun d h1 => .ret d h1
def sRetN : MS := fun _ h => .ret .non h
def sPass : MS := fun env h => .nx env h
def sBreak : MS := fun env h => .bk env h
def sCont : MS := fun env h => .ct env h
def sBad : MS := fun _ _ => .bad
def sSet (i : Nat) (a : ME) : MS := fun env h => ofR env (a env h) fun d h1 => .nx (env.set i (some d)) h1
def sAsg (g : MG) (a : ME) : MS := fun env h => ofR env (a env h) fun d h1 => match g d env h1 with
  | .ok e h2 => .nx e h2
  | _ => .bad
def sIf (t : MT) (a b : MS) : MS := fun env h => ofR env (t env h) fun c h1 => if c = true then a env h1 else b env h1
def sSeq (a b : MS) : MS := fun env h => match a env h with
  | .nx e h1 => b e h1
  | r => r
def sPut (g : OS) (v o i : ME) : MS := fun env h => ofR env (v env h) fun x h1 => ofR env (o env h1) fun y h2 => ofR env (i env h2) fun z h3 => match g y z x h3 with
  | some h4 => .nx env h4
  | none => .bad
def sPar2 (i j : Nat) (a : MA) : MS := fun env h => ofR env (a env h) fun ds h1 => match ds with
  | [x, y] => .nx ((env.set i (some x)).set j (some y)) h1
  | _ => .bad
def sPar3 (i j l : Nat) (a : MA) : MS := fun env h => ofR env (a env h) fun ds h1 => match ds with
  | [x, y, z] => .nx (((env.set i (some x)).set j (some y)).set l (some z)) h1
  | _ => .bad
def vAddI : O2
  | .int i, .int j, h => some (.int (i + j), h)
  | _, _, _ => none
def sAug (i : Nat) (g : O2) (a : ME) : MS := fun env h => match env[i]? with
  | some (some x) => ofR env (a env h) fun y h1 => match g x y h1 with
    | some p => .nx (env.set i (some p.1)) p.2
    | none => .bad
  | _ => .bad
def gName (i : Nat) : MG := fun d env h => .ok (env.set i (some d)) h
def gNil : MGs := fun ds env h => match ds with | [] => .ok env h | _ => .bad
def gCons (a : MG) (b : MGs) : MGs := fun ds env h => match ds with | d :: r => (a d env h).bind fun e h1 => b r e h1 | [] => .bad
def gTup (n : Nat) (b : MGs) : MG := fun d env h => match seqOf d h with | some xs => if xs.length = n then b xs env h else .bad | none => .bad
def gPut (g : OS) (o i : ME) : MG := fun d env h => (o env h).bind fun y h2 => (i env h2).bind fun z h3 => match g y z d h3 with
  | some h4 => .ok env h4
  | none => .bad

section
variable (K : PySem.W.Frag) (cl : CW) (W : WX)
def PostS (D : Ends) (H : Hp) (mu : List Addr) : RS → Prop
  | .nx e h => ∀ sg H' mu', Ext H mu H' mu' → HR K H' mu' cl h → ER K H' mu' e sg → D.nx sg H'
  | .ret d h => ∀ v H' mu', Ext H mu H' mu' → HR K H' mu' cl h → Rp K H' mu' d v → D.rt v H'
  | .bk e h => ∀ sg H' mu', Ext H mu H' mu' → HR K H' mu' cl h → ER K H' mu' e sg → D.bk sg H'
  | .ct e h => ∀ sg H' mu', Ext H mu H' mu' → HR K H' mu' cl h → ER K H' mu' e sg → D.ct sg H'
  | .exc x e h => ∀ c dd sg H' mu', Ext H mu H' mu' → HR K H' mu' cl h → ER K H' mu' e sg → XR K cl H' mu' x c dd → W c dd sg H'
  | .bad => False
def tS (m : MS) : TS := fun D sg H => ∃ mu env h, Rel K cl H mu h env sg ∧ PostS K cl W D H mu (m env h)
def PostG (H : Hp) (mu : List Addr) (r : R En) (Q : Sg → Hp → Prop) : Prop :=
  match r with
  | .ok e h => ∀ sg' H' mu', Ext H mu H' mu' → HR K H' mu' cl h → ER K H' mu' e sg' → Q sg' H'
  | _ => False
def tG (g : MG) : L2.TG := fun v sg H Q => ∃ mu env h d, Rel K cl H mu h env sg ∧ Rp K H mu d v ∧ PostG K cl H mu (g d env h) Q
def tGs (g : MGs) : L2.TGs := fun vs sg H Q => ∃ mu env h ds, Rel K cl H mu h env sg ∧ RpA K H mu ds vs ∧ PostG K cl H mu (g ds env h) Q
end
abbrev SS (X : Cx) (cl : CW) (W : WX) (st : Stmt) (m : MS) : Prop := PS X st (tS X.K cl W m)
abbrev SB (X : Cx) (cl : CW) (W : WX) (st : List Stmt) (m : MS) : Prop := PSs X st (tS X.K cl W m)
abbrev SG (X : Cx) (cl : CW) (e : Expr) (g : MG) : Prop := PG X e (tG X.K cl g)
abbrev SGs (X : Cx) (cl : CW) (e : List Expr) (g : MGs) : Prop := PGs X e (tGs X.K cl g)
theorem PS.imp {X : Cx} {st : Stmt} {t t' : TS} (h : PS X st t) (hi : ∀ D sg H, t' D sg H → t D sg H) : PS X st t' := ⟨fun pins s σ H D I q => h.run pins s σ H D I (hi _ _ _ q)⟩
theorem PSs.imp {X : Cx} {st : List Stmt} {t t' : TS} (h : PSs X st t) (hi : ∀ D sg H, t' D sg H → t D sg H) : PSs X st t' := ⟨fun pins s σ H D I q => h.run pins s σ H D I (hi _ _ _ q)⟩
theorem PG.imp {X : Cx} {e : Expr} {t t' : L2.TG} (h : PG X e t) (hi : ∀ v sg H Q, t' v sg H Q → t v sg H Q) : PG X e t' := ⟨fun pins s σ H v u Q I r q => h.run pins s σ H v u Q I r (hi _ _ _ _ q)⟩
theorem PGs.imp {X : Cx} {e : List Expr} {t t' : L2.TGs} (h : PGs X e t) (hi : ∀ v sg H Q, t' v sg H Q → t v sg H Q) : PGs X e t' := ⟨fun pins s σ H v u Q I r q => h.run pins s σ H v u Q I r (hi _ _ _ _ q)⟩

section
variable {K : PySem.W.Frag} {cl : CW} {W : WX} {D : Ends} {H H1 : Hp} {mu mu1 : List Addr} {r : RS} {sg : Sg} {env : En}
theorem PostS.ext (e : Ext H mu H1 mu1) (p : PostS K cl W D H mu r) : PostS K cl W D H1 mu1 r := by
  cases r with
  | nx e' h => exact fun sg H' mu' e' hr er => p sg H' mu' (e.trans e') hr er
  | ret d h => exact fun v H' mu' e' hr er => p v H' mu' (e.trans e') hr er
  | bk e' h => exact fun sg H' mu' e' hr er => p sg H' mu' (e.trans e') hr er
  | ct e' h => exact fun sg H' mu' e' hr er => p sg H' mu' (e.trans e') hr er
  | exc x e' h => exact fun c dd sg H' mu' e' hr er hx => p c dd sg H' mu' (e.trans e') hr er hx
  | bad => exact p
/-- the head of a statement: a reading, then the rest -/
theorem PostS.of {α β : Type} {rl : Hp → List Addr → α → β → Prop} {a : R α} {k : α → Hs → RS} (er : ER K H mu env sg) (p : PostS K cl W D H mu (ofR env a k)) :
    Post rl K cl W sg H mu a (fun b H1 => ∃ mu1 d h1, Ext H mu H1 mu1 ∧ HR K H1 mu1 cl h1 ∧ rl H1 mu1 d b ∧ PostS K cl W D H1 mu1 (k d h1)) := by
  cases a with
  | ok d h => exact fun b H' mu' e hr rb => ⟨mu', d, h, e, hr, rb, p.ext e⟩
  | exc x h => exact fun c dd H' mu' e hr hx => p c dd sg H' mu' e hr (er.mono e) hx
  | bad => exact p
theorem PostG.ext {r : R En} {Q : Sg → Hp → Prop} (e : Ext H mu H1 mu1) (p : PostG K cl H mu r Q) : PostG K cl H1 mu1 r Q := by
  cases r with
  | ok e' h => exact fun sg H' mu' e' hr er => p sg H' mu' (e.trans e') hr er
  | exc x h => exact p
  | bad => exact p
theorem PostG.of {α β : Type} {rl : Hp → List Addr → α → β → Prop} {a : R α} {k : α → Hs → R En} {Q : Sg → Hp → Prop} (p : PostG K cl H mu (a.bind k) Q) :
    Post rl K cl W sg H mu a (fun b H1 => ∃ mu1 d h1, Ext H mu H1 mu1 ∧ HR K H1 mu1 cl h1 ∧ rl H1 mu1 d b ∧ PostG K cl H1 mu1 (k d h1) Q) := by
  cases a with
  | ok d h => exact fun b H' mu' e hr rb => ⟨mu', d, h, e, hr, rb, p.ext e⟩
  | exc x h => exact p.elim
  | bad => exact p
theorem ER.set {i : Nat} {d : DS.D} {v : V} (er : ER K H mu env sg) (r : Rp K H mu d v) : ER K H mu (env.set i (some d)) (sg.set i (some v)) := by
  refine ⟨by simpa using er.1, fun j d' e => ?_⟩
  by_cases hj : i = j
  · subst hj
    have hlt : i < env.length := by have := (List.getElem?_eq_some_iff.mp e).1; simpa using this
    rw [List.getElem?_set_self hlt] at e
    cases e
    exact ⟨v, by rw [List.getElem?_set_self (by rw [← er.1]; exact hlt)], r⟩
  · rw [List.getElem?_set_ne hj] at e ⊢
    exact er.2 j d' e
end

section
variable {X : Cx} {cl : CW} {W : WX} {a b c e o i : Expr} {es : List Expr} {ma mb mc mo mi : ME} {mt : MT} {ms : MA} {s1 s2 : MS} {pos p p2 p3 : Pos} {st : Stmt} {rest : List Stmt}
theorem ss_bad : SS X cl W st sBad := PS.imp ps_never fun D sg H ⟨mu, env, h, rel, p⟩ => p
theorem sb_nil : SB X cl W [] sPass := PSs.imp pss_nil fun D sg H ⟨mu, env, h, rel, p⟩ => p _ _ _ (Ext.refl _ _) rel.hr rel.er
theorem ss_pass : SS X cl W (.Pass pos) sPass := PS.imp ps_pass fun D sg H ⟨mu, env, h, rel, p⟩ => p _ _ _ (Ext.refl _ _) rel.hr rel.er
theorem ss_break : SS X cl W (.Break pos) sBreak := PS.imp ps_break fun D sg H ⟨mu, env, h, rel, p⟩ => p _ _ _ (Ext.refl _ _) rel.hr rel.er
theorem ss_cont : SS X cl W (.Continue pos) sCont := PS.imp ps_continue fun D sg H ⟨mu, env, h, rel, p⟩ => p _ _ _ (Ext.refl _ _) rel.hr rel.er
theorem sb_one (h : SS X cl W st s1) : SB X cl W [st] s1 := pss_one h
theorem sb_cons (h1 : SS X cl W st s1) (h2 : SB X cl W rest s2) : SB X cl W (st :: rest) (sSeq s1 s2) :=
  PSs.imp (pss_cons h1 h2) fun D sg H ⟨mu, env, h, rel, p⟩ => ⟨mu, env, h, rel, by
    unfold sSeq at p
    cases q : s1 env h with
    | nx e' h' => rw [q] at p; exact fun sg' H' mu' e hr er => ⟨mu', e', h', ⟨hr, er⟩, p.ext e⟩
    | ret d h' => rw [q] at p; exact p
    | bk e' h' => rw [q] at p; exact p
    | ct e' h' => rw [q] at p; exact p
    | exc x e' h' => rw [q] at p; exact p
    | bad => rw [q] at p; exact p⟩
theorem ss_expr (he : SE X cl W e ma) (hs : swapsWith e none pos.line X.env = pure false := by rfl) : SS X cl W (.Expr e pos) (sExpr ma) :=
  PS.imp (ps_expr he hs) fun D sg H ⟨mu, env, h, rel, p⟩ => ⟨mu, env, h, rel, (PostS.of rel.er p).mono fun b H1 ⟨mu1, d, h1, e, hr, rb, p1⟩ => p1 _ _ _ (Ext.refl _ _) hr (rel.er.mono e)⟩
theorem ss_ret (he : SE X cl W e ma) : SS X cl W (.Return (some e) pos) (sRet ma) :=
  PS.imp (ps_ret he) fun D sg H ⟨mu, env, h, rel, p⟩ => ⟨mu, env, h, rel, (PostS.of rel.er p).mono fun b H1 ⟨mu1, d, h1, e, hr, rb, p1⟩ => p1 _ _ _ (Ext.refl _ _) hr rb⟩
theorem ss_retN : SS X cl W (.Return none pos) sRetN := PS.imp ps_retN fun D sg H ⟨mu, env, h, rel, p⟩ => p _ _ _ (Ext.refl _ _) rel.hr .non
theorem ss_if {t1 t2 : List Stmt} (hc : ST X cl W c mt) (ha : SB X cl W t1 s1) (hb : SB X cl W t2 s2) : SS X cl W (.If c t1 t2 pos) (sIf mt s1 s2) :=
  PS.imp (ps_if hc ha hb) fun D sg H ⟨mu, env, h, rel, p⟩ => ⟨mu, env, h, rel, (PostS.of (rl := rlB) rel.er p).mono fun b H1 ⟨mu1, d, h1, e, hr, rb, p1⟩ => by
    cases rb
    cases b with
    | true => exact ⟨mu1, env, h1, ⟨hr, rel.er.mono e⟩, p1⟩
    | false => exact ⟨mu1, env, h1, ⟨hr, rel.er.mono e⟩, p1⟩⟩
theorem ss_set {k : Nat} {x : Str} (hN : X.N.Nodup) (hi : X.N[k]? = some x) (hx : Loc X.env.scope x) (he : SE X cl W e ma) (hs : swapsWith e (some (.Name x p2)) pos.line X.env = pure false := by rfl) (hf : X.fn x = true ∨ X.env.scope.names.lookup x = some .local := by first | exact .inl rfl | exact .inr rfl | assumption) :
    SS X cl W (.Assign [.Name x p2] e pos) (sSet k ma) :=
  PS.imp (ps_set hN hi hx he hs hf) fun D sg H ⟨mu, env, h, rel, p⟩ => ⟨mu, env, h, rel, (PostS.of rel.er p).mono fun b H1 ⟨mu1, d, h1, e, hr, rb, p1⟩ => p1 _ _ _ (Ext.refl _ _) hr ((rel.er.mono e).set rb)⟩
/-! ### targets -/
theorem sg_name {k : Nat} {x : Str} (hN : X.N.Nodup) (hi : X.N[k]? = some x) (hx : Loc X.env.scope x) (hf : X.fn x = true ∨ X.env.scope.names.lookup x = some .local := by first | exact .inl rfl | exact .inr rfl | assumption) : SG X cl (.Name x pos) (gName k) :=
  PG.imp (pg_name hN hi hx hf) fun v sg H Q ⟨mu, env, h, d, rel, rd, p⟩ => p _ _ _ (Ext.refl _ _) rel.hr (rel.er.set rd)
theorem sgs_nil : SGs X cl [] gNil := PGs.imp pgs_nil fun v sg H Q ⟨mu, env, h, d, rel, rd, p⟩ => by
  cases rd with
  | nil => exact ⟨rfl, p _ _ _ (Ext.refl _ _) rel.hr rel.er⟩
  | cons _ _ => exact p.elim
theorem sgs_cons {g : MG} {gs : MGs} (h1 : SG X cl e g) (h2 : SGs X cl es gs)
    (hs : (assignEach (e :: es) X.env).map (·.2) = assign e X.env :: (assignEach es X.env).map (·.2) := by rfl) : SGs X cl (e :: es) (gCons g gs) :=
  PGs.imp (pgs_cons h1 h2 hs) fun vs sg H Q ⟨mu, env, h, ds, rel, rd, p⟩ => by
    cases rd with
    | nil => exact p.elim
    | @cons d v ds vs rd rest =>
      refine ⟨v, vs, rfl, mu, env, h, d, rel, rd, ?_⟩
      unfold gCons at p
      simp only at p
      cases q : g d env h with
      | ok e' h' => rw [q] at p; exact fun sg' H' mu' e hr er => ⟨mu', e', h', ds, ⟨hr, er⟩, rest.mono e, p.ext e⟩
      | exc x h' => rw [q] at p; exact p.elim
      | bad => rw [q] at p; exact p.elim
theorem pg_both {k n : Nat} {t : L2.TGs} (hc : X.calm = true) (h : PGs X es t) (hn : (assignEach es X.env).length = n := by rfl) (hst : (assignEach es X.env).findIdx? (·.1) = none := by rfl) :
    PG X (.Tuple es k pos) (fun v σ H Q => L2.gTup X.K n t v σ H Q ∨ L2.gUnl X.K n t v σ H Q) := by
  constructor
  intro pins s σ H v u Q I r q
  rcases q with q | q
  · exact (pg_tup hc h hn hst).run pins s σ H v u Q I r q
  · exact (pg_unl hc h hn hst).run pins s σ H v u Q I r q
theorem sg_tup {gs : MGs} {k n : Nat} (hc : X.calm = true) (h : SGs X cl es gs) (hn : (assignEach es X.env).length = n := by rfl) (hst : (assignEach es X.env).findIdx? (·.1) = none := by rfl) : SG X cl (.Tuple es k pos) (gTup n gs) :=
  PG.imp (pg_both hc h hn hst) fun v sg H Q ⟨mu, env, h, d, rel, rd, p⟩ => by
    unfold gTup at p
    cases q : seqOf d h with
    | none => rw [q] at p; exact p.elim
    | some xs =>
      rw [q] at p
      simp only at p
      split at p
      · rename_i hl
        obtain ⟨a, ys, rfl, ra, hh⟩ := seqOf_ok rel.hr rd q
        rcases hh with ⟨z, _⟩ | z
        · exact .inl ⟨a, ys, rfl, z, by rw [← ra.length]; exact hl, mu, env, h, xs, rel, ra, p⟩
        · exact .inr ⟨a, ys, rfl, z, by rw [← ra.length]; exact hl, mu, env, h, xs, rel, ra, p⟩
      · exact p.elim
theorem ss_asg {tg : Expr} {g : MG} (he : SE X cl W e ma) (hg : SG X cl tg g) (hs : swapsWithSole [tg] e pos.line X.env = pure false := by rfl) (hw : swappedStores [tg] e X.env = pure none := by rfl)
    (h1 : (assignEach [tg] X.env).map (·.2) = [assign tg X.env] := by rfl) : SS X cl W (.Assign [tg] e pos) (sAsg g ma) :=
  PS.imp (ps_asg he hg hs hw h1) fun D sg H ⟨mu, env, h, rel, p⟩ => ⟨mu, env, h, rel, (PostS.of rel.er p).mono fun b H1 ⟨mu1, d, h1, e, hr, rb, p1⟩ => ⟨mu1, env, h1, d, ⟨hr, rel.er.mono e⟩, rb, by
    cases q : g d env h1 with
    | ok e' h' => rw [q] at p1; exact p1
    | exc x h' => rw [q] at p1; exact p1
    | bad => rw [q] at p1; exact p1⟩⟩
/-- o[i] = v of a list -/
theorem vLPut_ok {K : PySem.W.Frag} {H : Hp} {mu : List Addr} {h h' : Hs} {d z x : DS.D} {o i v : V} {Q : Hp → Prop} (hr : HR K H mu cl h) (rd : Rp K H mu d o) (rz : Rp K H mu z i) (rx : Rp K H mu x v) (q : vLPut d z x h = some h')
    (hq : ∀ H', Ext H mu H' mu → HR K H' mu cl h' → Q H') : rSetL o i v H Q := by
  cases rd with
  | @ref n a hn =>
    cases rz with
    | int k =>
      unfold vLPut at q
      simp only at q
      split at q
      · rename_i xs e1
        obtain ⟨a', ha', ys, g1, k1⟩ := hr.at e1
        rw [hn] at ha'; cases ha'
        cases q2 : ixN xs.length k with
        | none => rw [q2] at q; cases q
        | some j =>
          rw [q2] at q
          cases q
          refine ⟨a, ys, k, j, rfl, rfl, g1, by rw [← k1.length]; exact q2, ?_⟩
          have E : Ext H mu (upd H a (.lst (ys.set j v))) mu := Ext.written hn g1 (by intro _ z; cases z) (fun z => z)
          exact hq _ E (hr.written hn g1 (by intro _ z; cases z) (fun z => z) ⟨_, upd_same, (RpA.set rx j k1).mono E⟩)
      · cases q
    | _ => cases q
  | _ => cases q
theorem sg_lput (ho : SE X cl (fun _ _ _ _ => False) o mo) (hi : SE X cl (fun _ _ _ _ => False) i mi)
    (ha : ∀ v, assign (.Subscript o i pos) X.env v = (do
      let ov ← holding [v] (eval o X.env)
      let iv ← holding [v, ov] (eval i X.env)
      standAt pos
      holding [v, ov, iv] (setItem ov iv v)
      release [v, ov, iv] []) := by intro _; rfl) : SG X cl (.Subscript o i pos) (gPut vLPut mo mi) :=
  PG.imp (pg_sub ho hi set_list ha) fun v sg H Q ⟨mu, env, h, d, rel, rd, p⟩ => by
    unfold gPut at p
    refine ⟨mu, env, h, rel, (PostG.of p).mono fun b H1 ⟨mu1, d1, h1, e, hr, rb, p1⟩ => ⟨mu1, env, h1, ⟨hr, rel.er.mono e⟩, (PostG.of p1).mono fun b2 H2 ⟨mu2, d2, h2, e2, hr2, rb2, p2⟩ => ?_⟩⟩
    cases q : vLPut d1 d2 d h2 with
    | none => rw [q] at p2; exact p2.elim
    | some h' =>
      rw [q] at p2
      exact vLPut_ok hr2 (rb.mono e2) rb2 ((rd.mono e).mono e2) q fun H' E hr' => p2 _ _ _ E hr' (((rel.er.mono e).mono e2).mono E)
theorem ss_lput (hv : SE X cl W e ma) (ho : SE X cl W o mo) (hi : SE X cl W i mi) (hs : swapsWithSole [.Subscript o i p2] e pos.line X.env = pure false := by rfl) (hw : swappedStores [.Subscript o i p2] e X.env = pure none := by rfl)
    (h1 : (assignEach [.Subscript o i p2] X.env).map (·.2) = [assign (.Subscript o i p2) X.env] := by rfl)
    (ha : ∀ v, assign (.Subscript o i p2) X.env v = (do
      let ov ← holding [v] (eval o X.env)
      let iv ← holding [v, ov] (eval i X.env)
      standAt p2
      holding [v, ov, iv] (setItem ov iv v)
      release [v, ov, iv] []) := by intro _; rfl) : SS X cl W (.Assign [.Subscript o i p2] e pos) (sPut vLPut ma mo mi) :=
  PS.imp (ps_asg hv (pg_sub ho hi set_list ha) hs hw h1) fun D sg H ⟨mu, env, h, rel, p⟩ => by
    unfold sPut at p
    refine ⟨mu, env, h, rel, (PostS.of rel.er p).mono fun b H1 ⟨mu1, d1, h1, e, hr, rb, p1⟩ => ⟨mu1, env, h1, ⟨hr, rel.er.mono e⟩, (PostS.of (rel.er.mono e) p1).mono fun b2 H2 ⟨mu2, d2, h2, e2, hr2, rb2, p2⟩ => ⟨mu2, env, h2, ⟨hr2, (rel.er.mono e).mono e2⟩,
      (PostS.of ((rel.er.mono e).mono e2) p2).mono fun b3 H3 ⟨mu3, d3, h3, e3, hr3, rb3, p3⟩ => ?_⟩⟩⟩
    cases q : vLPut d2 d3 d1 h3 with
    | none => rw [q] at p3; exact p3.elim
    | some h' =>
      rw [q] at p3
      exact vLPut_ok hr3 (rb2.mono e3) rb3 ((rb.mono e2).mono e3) q fun H' E hr' => p3 _ _ _ E hr' ((((rel.er.mono e).mono e2).mono e3).mono E)
theorem ss_dput (hu : X.A.units + 1 < cLine) (hv : SE X cl W e ma) (ho : SE X cl W o mo) (hi : SE X cl W i mi) (hs : swapsWith e (some (.Subscript o i p2)) pos.line X.env = pure false := by rfl) : SS X cl W (.Assign [.Subscript o i p2] e pos) (sPut vDPut ma mo mi) :=
  PS.imp (ps_dput hu ho hi hv hs) fun D sg H ⟨mu, env, h, rel, p⟩ => by
    unfold sPut at p
    refine ⟨mu, env, h, rel, (PostS.of rel.er p).mono fun b H1 ⟨mu1, d1, h1, e, hr, rb, p1⟩ => ⟨mu1, env, h1, ⟨hr, rel.er.mono e⟩, (PostS.of (rel.er.mono e) p1).mono fun b2 H2 ⟨mu2, d2, h2, e2, hr2, rb2, p2⟩ => ⟨mu2, env, h2, ⟨hr2, (rel.er.mono e).mono e2⟩,
      (PostS.of ((rel.er.mono e).mono e2) p2).mono fun b3 H3 ⟨mu3, d3, h3, e3, hr3, rb3, p3⟩ => ?_⟩⟩⟩
    cases q : vDPut d2 d3 d1 h3 with
    | none => rw [q] at p3; exact p3.elim
    | some h' =>
      rw [q] at p3
      have rb2 := rb2.mono e3
      have rb := (rb.mono e2).mono e3
      have er := ((rel.er.mono e).mono e2).mono e3
      cases rb2 with
      | @ref n a hn =>
        unfold vDPut at q
        simp only at q
        split at q
        · rename_i kvs k q1 q2
          split at q
          · rename_i hz
            cases q
            obtain ⟨a', ha', ks, g1, k1⟩ := hr3.at q1
            rw [hn] at ha'; cases ha'
            refine ⟨a, _, rfl, by rw [keyD_ok rb3 q2]; exact DPut.k (k := k) g1 (by rw [← Paired.length k1]; exact hz), ?_⟩
            have E : Ext H3 mu3 (upd H3 a (.dK (putK ks k b))) mu3 := Ext.written hn g1 (by intro _ z; cases z) (fun z => z)
            exact p3 _ _ _ E (hr3.written hn g1 (by intro _ z; cases z) (fun z => z) ⟨_, upd_same, (setK_ok rb k1).mono E⟩) (er.mono E)
          · cases q
        · cases q
      | _ => cases q
theorem ss_par2 {k l : Nat} {x y : Str} {px py pt pt2 : Pos} {kt k2} (hc : X.calm = true) (hN : X.N.Nodup) (hi : X.N[k]? = some x) (hj : X.N[l]? = some y) (hij : k ≠ l)
    (hx : X.env.scope.names.lookup x = some .local) (hy : X.env.scope.names.lookup y = some .local) (ha : SA X cl W [a, b] ms)
    (hw : swappedStores [.Tuple [.Name x px, .Name y py] kt pt] (.Tuple [a, b] k2 pt2) X.env = pure (some [x, y]) := by rfl)
    (hs : swapsWithSole [.Tuple [.Name x px, .Name y py] kt pt] (.Tuple [a, b] k2 pt2) pos.line X.env = pure false := by rfl) :
    SS X cl W (.Assign [.Tuple [.Name x px, .Name y py] kt pt] (.Tuple [a, b] k2 pt2) pos) (sPar2 k l ms) :=
  PS.imp (ps_par hc hN hi hj hij hx hy ha hw hs) fun D sg H ⟨mu, env, h, rel, p⟩ => ⟨mu, env, h, rel, (PostS.of rel.er p).mono fun b H1 ⟨mu1, d, h1, e, hr, rb, p1⟩ => by
    cases rb with
    | nil => exact p1.elim
    | cons r1 rest =>
      cases rest with
      | nil => exact p1.elim
      | cons r2 rest2 =>
        cases rest2 with
        | cons _ _ => exact p1.elim
        | nil => exact ⟨_, _, rfl, p1 _ _ _ (Ext.refl _ _) hr (((rel.er.mono e).set r1).set r2)⟩⟩
theorem ss_par3 {k l m : Nat} {x y z : Str} {px py pz pt pt2 : Pos} {kt k2} (hc : X.calm = true) (hN : X.N.Nodup) (hi : X.N[k]? = some x) (hj : X.N[l]? = some y) (hm : X.N[m]? = some z) (hij : k ≠ l) (hil : k ≠ m) (hjl : l ≠ m)
    (hx : X.env.scope.names.lookup x = some .local) (hy : X.env.scope.names.lookup y = some .local) (hz : X.env.scope.names.lookup z = some .local) (ha : SA X cl W [a, b, c] ms)
    (hw : swappedStores [.Tuple [.Name x px, .Name y py, .Name z pz] kt pt] (.Tuple [a, b, c] k2 pt2) X.env = pure (some [x, y, z]) := by rfl)
    (hs : swapsWithSole [.Tuple [.Name x px, .Name y py, .Name z pz] kt pt] (.Tuple [a, b, c] k2 pt2) pos.line X.env = pure false := by rfl) :
    SS X cl W (.Assign [.Tuple [.Name x px, .Name y py, .Name z pz] kt pt] (.Tuple [a, b, c] k2 pt2) pos) (sPar3 k l m ms) :=
  PS.imp (ps_par3 hc hN hi hj hm hij hil hjl hx hy hz ha hw hs) fun D sg H ⟨mu, env, h, rel, p⟩ => ⟨mu, env, h, rel, (PostS.of rel.er p).mono fun b H1 ⟨mu1, d, h1, e, hr, rb, p1⟩ => by
    cases rb with
    | nil => exact p1.elim
    | cons r1 rest =>
      cases rest with
      | nil => exact p1.elim
      | cons r2 rest2 =>
        cases rest2 with
        | nil => exact p1.elim
        | cons r3 rest3 =>
          cases rest3 with
          | cons _ _ => exact p1.elim
          | nil => exact ⟨_, _, _, rfl, p1 _ _ _ (Ext.refl _ _) hr ((((rel.er.mono e).set r1).set r2).set r3)⟩⟩
/-- x op= e of ints -/
def PIs (X : Cx) (cl : CW) (op : Operator) (g : O2) : Prop := PIp X op (r2 X.K cl g)
theorem ip_addS : PIs X cl .Add vAddI := by
  intro pins s σ H x y v u Q I rx ry ⟨mu, h, d, e, hr, rd, re, p⟩
  cases rd with
  | int i =>
    cases re with
    | int j => exact ip_add pins s σ H _ _ v u Q I rx ry ⟨i, j, rfl, rfl, p _ _ _ (Ext.refl _ _) hr (.int _)⟩
    | _ => exact p.elim
  | _ => exact p.elim
theorem ip_subS : PIs X cl .Sub vSub := by
  intro pins s σ H x y v u Q I rx ry ⟨mu, h, d, e, hr, rd, re, p⟩
  cases rd with
  | int i =>
    cases re with
    | int j => exact ip_sub pins s σ H _ _ v u Q I rx ry ⟨i, j, rfl, rfl, p _ _ _ (Ext.refl _ _) hr (.int _)⟩
    | _ => exact p.elim
  | _ => exact p.elim
theorem ss_aug {k : Nat} {x : Str} {op : Operator} {g : O2} (hN : X.N.Nodup) (hi : X.N[k]? = some x) (hx : Loc X.env.scope x) (he : SE X cl W e ma) (ho : PIs X cl op g) (hf : X.fn x = true ∨ X.env.scope.names.lookup x = some .local := by first | exact .inl rfl | exact .inr rfl | assumption) :
    SS X cl W (.AugAssign (.Name x p2) op e pos) (sAug k g ma) :=
  PS.imp (ps_aug hN hi hx he ho hf) fun D sg H ⟨mu, env, h, rel, p⟩ => by
    unfold sAug at p
    cases q : env[k]? with
    | none => rw [q] at p; exact p.elim
    | some z =>
      cases z with
      | none => rw [q] at p; exact p.elim
      | some d =>
        rw [q] at p
        obtain ⟨v, hv, rv⟩ := rel.er.2 k d q
        refine ⟨v, hv, mu, env, h, rel, (PostS.of rel.er p).mono fun b H1 ⟨mu1, d1, h1, e, hr, rb, p1⟩ => ⟨mu1, h1, d, d1, hr, rv.mono e, rb, ?_⟩⟩
        cases q1 : g d d1 h1 with
        | none => rw [q1] at p1; exact p1.elim
        | some r =>
          rw [q1] at p1
          exact fun w H' mu' e' hr' rw' => p1 _ _ _ e' hr' (((rel.er.mono e).mono e').set rw')
end
end DS

set_option Elab.async false
set_option linter.all false
set_option maxRecDepth 100000
set_option maxHeartbeats 4000000
/-! DSG: what is walked. -/
namespace DSE1
open PySem PySem.Builtin
set_option maxHeartbeats 1000000 in
theorem meets_enum1 {v : Value} {o : Obj} {H : Heap → Prop} (B : Begins v o H) :
    Meets (Builtin.«enumerate.__new__» ⟨[.type "enumerate", v], []⟩) (fun _ R s => H s.heap ∧
      R (.ok (.ret (.ref (s.heap.push o).objs.size))) { s with heap := (s.heap.push o).push { cls := .type "enumerate", data := .fields #[.none, .bool false, .ref s.heap.objs.size, rawInt 0, .none, .none] } }) :=
  .of_wp fun prog w A R s h => by
    obtain ⟨hp, g, d, tk, os⟩ := s; obtain ⟨h1, h⟩ := h
    have hsub := sub_enumerate
    have q1 : ∀ {A' : Around} {E : Value → Shared → Prop} {Q : Value → Shared → Prop}, Q (.ref hp.objs.size) ⟨hp.push o, g, d, tk, os⟩ → wpAny (model prog w) A' (pyIter v) Q E ⟨hp, g, d, tk, os⟩ :=
      fun q => B.iter prog w _ _ ⟨hp, g, d, tk, os⟩ _ h1 q
    wp_walk using q1
    refine wpAny_stack_any fun st => wpAny_pure ?_
    split
    · rename_i c _ _ _ _ _
      cases (c == Value.type "enumerate")
      · wp_walk using q1
        exact ⟨_, rfl, h⟩
      · wp_walk using q1
        exact ⟨_, rfl, h⟩
    · wp_walk using q1
      exact ⟨_, rfl, h⟩
theorem call_enum1 {prog : Program} {w : World} {A : Around} {E : Value → Shared → Prop} {s : Shared} {v : Value} {o : Obj} {H : Heap → Prop} {Q : Value → Shared → Prop} (B : Begins v o H) (h1 : H s.heap)
    (h : ∀ h', IsEnum h' (s.heap.objs.size + 1) s.heap.objs.size 0 .none → h'.get? s.heap.objs.size = some o → h'.objs.size = s.heap.objs.size + 2 →
      (∀ b o, s.heap.get? b = some o → h'.get? b = some o) → Q (.ref (s.heap.objs.size + 1)) { s with heap := h' }) :
    wpAny (model prog w) A (call (.type "enumerate") [v]) Q E s := by
  refine callType_new F.called_enumerate (by decide) (F.typeCall_enumerate_1 _) (F.newCall_enumerate_1 _) (fun obj => F.args_object_init_2 obj _) F.entry_enumerate_new
    (meets_enum1 B) ⟨h1, ?_⟩
  have hz : (s.heap.push o).objs.size = s.heap.objs.size + 1 := Heap.size_push ..
  show _ ∧ _
  rw [hz]
  have he : IsEnum ((s.heap.push o).push { cls := .type "enumerate", data := .fields #[.none, .bool false, .ref s.heap.objs.size, rawInt 0, .none, .none] }) (s.heap.objs.size + 1) s.heap.objs.size 0 .none := by
    have := Heap.get?_push_size (s.heap.push o) (o := { cls := .type "enumerate", data := .fields #[.none, .bool false, .ref s.heap.objs.size, rawInt 0, .none, .none] }) rfl
    rw [hz] at this; exact this
  refine ⟨⟨_, he, rfl⟩, h _ he (Heap.get?_push_of_some _ (Heap.get?_push_size _ B.free)) (by rw [Heap.size_push, hz]) fun b o x => Heap.get?_push_of_some _ (Heap.get?_push_of_some _ x)⟩
end DSE1

namespace DS
open PySem PySem.Spec PyProof.Rows L2
/-! ### enumerate of a tuple -/
def IteT (K : PySem.W.Frag) (a : Addr) : It :=
  ⟨fun i H => ∃ (xs : List V) (x : V), SqT K H a xs ∧ xs[i]? = some x, fun i H v H' => ∃ T x, v = .ref T ∧ H T = none ∧ H' = upd H T (.tup [.int (i : Nat), x]) ∧ ∀ xs, SqT K H a xs → xs[i]? = some x, fun i H => ∃ xs : List V, SqT K H a xs ∧ xs.length = i⟩
theorem turn_enumT {P : Program} {w : World} {K : PySem.W.Frag} {elts : List Expr} {kk : Nat} {tpos : Pos} (a e it : Addr) :
    Turn P w K (.Tuple elts kk tpos) (IteT K a) [e, it] e (fun i h => (∃ old, IsEnum h e it ((i : Nat) : Int) old) ∧ h.IsTupleIter it a i ∧ e ≠ it ∧ a ≠ it ∧ a ≠ e) where
  mem := by simp
  obj := fun i h st b hb => by
    obtain ⟨⟨old, he⟩, ⟨o, ho, hc, hd⟩, _⟩ := st
    have e' : b = e ∨ b = it := by simpa using hb
    rcases e' with z | z
    · rw [z]; exact ⟨_, he, fun v q => nomatch q⟩
    · rw [z]; exact ⟨o, ho, fun v q => by rw [hd] at q; cases q⟩
  keep := fun i h h' st k => let ⟨⟨old, he⟩, hi, hne⟩ := st; ⟨⟨old, k e (by simp) _ he⟩, hi.at fun o q => k it (by simp) o q, hne⟩
  item := by
    intro X hP hw hK hc i pins s σ H E I hf st hg
    subst hP hw hK
    obtain ⟨⟨old, he⟩, hit, hne, hai, hae⟩ := st
    obtain ⟨xs, x, hq, hx⟩ := hg
    obtain ⟨its, rv, p, hz⟩ := I.tuple hq
    obtain ⟨u, hu, ru⟩ := rv.get hx
    have hel : e < s.heap.objs.size := Heap.lt_size he
    have hil : it < s.heap.objs.size := by obtain ⟨_, q, _⟩ := hit; exact Heap.lt_size q
    have hlt : i < its.toArray.size := by
      have := (List.getElem?_eq_some_iff.mp hu).1
      simpa using this
    have DD := Draws.tuple (prog := X.prog) (w := X.w) (A := X.A.in1) (show X.A.in1.handled = none from I.ok.hd hc) it a hai its.toArray
    refine wpAny_pyNext_enum_itemD DD he ⟨hit, p⟩ hlt hne (by simp only [List.mem_cons, List.not_mem_nil, or_false, not_or]; exact ⟨hne, Ne.symm hae⟩) fun x' h' tk hP' ho hit' hT hsz hk => ?_
    have ex : x' = u := by
      have h1 : its.toArray[i]? = some x' := hP'
      have h2 : its.toArray[i]? = some u := by simpa using hu
      rw [h1] at h2; exact Option.some.inj h2
    subst ex
    refine ⟨_, rfl, wpAny_letOwnedTupleGo_enum (s := { s with heap := h', toks := tk + 1 }) ho fun h'' he' sb => ?_⟩
    have hT2 : h''.get? s.heap.objs.size = some { cls := .type "tuple", data := .seq #[.int i tk, x'] } := (sb.2 _ (Nat.ne_of_gt hel)).trans hT
    have new : ObjOk X.prog X.w (upd H s.heap.objs.size (.tup [.int (i : Nat), x])) h'' s.heap.objs.size (.tup [.int (i : Nat), x]) :=
      ⟨by show 2 ≤ sizeLine; decide, [.int i tk, x'], .cons ⟨_, rfl⟩ (.cons ru .nil), ⟨_, hT2, rfl, _, rfl⟩⟩
    have I1 : Inv X pins σ (upd H s.heap.objs.size (.tup [.int (i : Nat), x])) { s with heap := h'', toks := tk + 1 } :=
      I.turnedNew (ch := [e, it]) (fun b ob hb q => (sb.2 b (fun z => hb (by simp [z]))).trans (hk b ob (fun z => hb (by simp [z])) (fun z => hb (by simp [z])) q)) hf (Nat.le_refl _) new
    refine ⟨.ref s.heap.objs.size, _, I1, rfl, ⟨_, x, rfl, I.hok.fresh (Nat.le_refl _), rfl, fun ys hy => by rw [I.tuple_inj hy hq]; exact hx⟩, ⟨⟨x', ?_⟩, hit'.1.at fun o q => (sb.2 it (Ne.symm hne)).trans q, hne, hai, hae⟩, fun b hb => ?_⟩
    · have e1 : ((i + 1 : Nat) : Int) = (i : Int) + 1 := by omega
      rw [e1]; exact he'
    · have hb' : b < s.heap.objs.size := by
        have e' : b = e ∨ b = it := by simpa using hb
        rcases e' with z | z
        · rw [z]; exact hel
        · rw [z]; exact hil
      rw [upd_ne (Nat.ne_of_lt hb')]
      exact (hf b hb).1
  done := by
    intro X hP hw hK hc i pins s σ H E I hf st hg
    subst hP hw hK
    obtain ⟨⟨old, he⟩, hit, hne, hai, hae⟩ := st
    obtain ⟨xs, hq, hx⟩ := hg
    obtain ⟨its, rv, p, hz⟩ := I.tuple hq
    obtain ⟨f0, f1, f2, f3, f4, f5⟩ := hf it (by simp)
    have hl := rv.length
    have hi : i = its.toArray.size := by simp; omega
    have DD := Draws.tuple (prog := X.prog) (w := X.w) (A := X.A.in1) (show X.A.in1.handled = none from I.ok.hd hc) it a hai its.toArray
    exact wpAny_pyNext_enum_endD DD he ⟨by rw [← hi]; exact hit, p⟩ fun h' eb => ⟨rfl, I.turned (t' := s.toks) (fun b o hb q => eb b o hb q) f0 f1 f3 f4 f5⟩
  self := fun A i s Q E st h => let ⟨⟨_, he⟩, _⟩ := st; wpAny_pyIter_enum he h

/-! ### meanings -/
inductive Src where
  | st (xs : List D)
  | sl (xs : List D)
  | lv (n : Nat)
inductive Iter where
  | one (s : Src)
  | rng (lo : Int) (n : Nat)
  | enum (s : Src)
  | zip (a b : Src)
def Src.get : Src → Nat → Hs → Option (Option D)
  | .st xs, i, _ => some xs[i]?
  | .sl xs, i, _ => some xs[i]?
  | .lv n, i, h => (h[n]?.bind lsO).map fun xs => xs[i]?
def Src.len : Src → Hs → Nat
  | .st xs, _ => xs.length
  | .sl xs, _ => xs.length
  | .lv n, h => match h[n]?.bind lsO with
    | some xs => xs.length
    | none => 0
def Iter.get : Iter → Nat → Hs → Option (Option D)
  | .one s, i, h => s.get i h
  | .rng lo n, i, _ => if i < n then some (some (.int (lo + i))) else if i = n then some none else none
  | .enum s, i, h => match s.get i h with
    | some (some d) => some (some (.tup [.int i, d]))
    | some none => if s.len h = i then some none else none
    | none => none
  | .zip a b, i, h => match a.get i h, b.get i h with
    | some (some x), some (some y) => some (some (.tup [x, y]))
    | some _, some _ => some none
    | _, _ => none
def Iter.len : Iter → Hs → Nat
  | .one s, h => s.len h
  | .rng _ n, _ => n
  | .enum s, h => s.len h
  | .zip a b, h => min (a.len h) (b.len h)
abbrev MI := En → Hs → R Iter
def srcOf : D → Hs → Option Src
  | .tup xs, _ => some (.st xs)
  | .sl xs, _ => some (.sl xs)
  | .ref n, h => match h[n]?.bind lsO with
    | some _ => some (.lv n)
    | none => none
  | _, _ => none
def iSeq (a : ME) : MI := fun env h => (a env h).bind fun x h1 => match srcOf x h1 with | some s => .ok (.one s) h1 | none => .bad
def rOk (i : Int) : Bool := Nat.ble i.natAbs 4611686018427387903
def iRange1 (a : ME) : MI := fun env h => (a env h).bind fun d h1 => match d with
  | .int j => if rOk j = true then .ok (.rng 0 j.toNat) h1 else .bad
  | _ => .bad
def iRange2 (a b : ME) : MI := fun env h => (a env h).bind fun d h1 => (b env h1).bind fun d' h2 => match d, d' with
  | .int i, .int j => if (rOk i && rOk j) = true then .ok (.rng i (j - i).toNat) h2 else .bad
  | _, _ => .bad
def iEnum (a : ME) : MI := fun env h => (a env h).bind fun x h1 => match srcOf x h1 with
  | some (.sl _) => .bad
  | some s => .ok (.enum s) h1
  | none => .bad
def iZip (a b : ME) : MI := fun env h => (a env h).bind fun x h1 => (b env h1).bind fun y h2 => match srcOf x h2, srcOf y h2 with
  | some (.st xs), some (.st ys) => .ok (.zip (.st xs) (.st ys)) h2
  | some (.lv xs), some (.lv ys) => .ok (.zip (.lv xs) (.lv ys)) h2
  | _, _ => .bad

/-- how an iterator of the layer answers to ours -/
def ItOK (K : PySem.W.Frag) (cl : CW) (H0 : Hp) (mu0 : List Addr) (it : Iter) (J : It) : Prop :=
  ∀ (H : Hp) (mu : List Addr) (h : Hs) (i : Nat), Mo H0 mu0 H mu → HR K H mu cl h →
    (∀ d, it.get i h = some (some d) → J.go i H ∧ ∀ x H', J.yld i H x H' → Ext H mu H' mu ∧ HR K H' mu cl h ∧ Rp K H' mu d x) ∧ (it.get i h = some none → J.stop i H)
def tI (K : PySem.W.Frag) (cl : CW) (W : WX) (m : MI) : L2.TI := fun sg H R => ∃ mu env h, Rel K cl H mu h env sg ∧ Post (ItOK K cl) K cl W sg H mu (m env h) R
abbrev SI (X : Cx) (cl : CW) (W : WX) (tg iter : Expr) (m : MI) : Prop := PI X tg iter (tI X.K cl W m)
theorem PI.imp {X : Cx} {tg e : Expr} {t t' : L2.TI} (h : PI X tg e t) (hi : ∀ sg H Q, t' sg H Q → t sg H Q) : PI X tg e t' := ⟨fun pins s σ H Q I q => h.run pins s σ H Q I (hi _ _ _ q)⟩

section
variable {K : PySem.W.Frag} {cl : CW} {H : Hp} {mu : List Addr}
theorem it_tup {a : Addr} {ds : List D} {xs : List V} (s : SqT K H a xs) (r : RpA K H mu ds xs) : ItOK K cl H mu (.one (.st ds)) (Itt K a) := fun H1 mu1 h i e hr => by
  have s1 := e.sqt s
  have r1 := r.mo e
  refine ⟨fun d hd => ?_, fun hd => ?_⟩
  · have q : ds[i]? = some d := Option.some.inj hd
    obtain ⟨v, hv, rv⟩ := r1.get q
    refine ⟨⟨xs, v, s1, hv⟩, fun x H' y => ?_⟩
    obtain ⟨rfl, y⟩ := y
    have := y xs s1
    rw [hv] at this
    cases this
    exact ⟨Ext.refl _ _, hr, rv⟩
  · have q : ds[i]? = none := Option.some.inj hd
    exact ⟨xs, s1, by rw [← r1.length]; exact List.getElem?_eq_none_iff.mp q⟩
theorem it_sl {a : Addr} {ds : List D} {xs : List V} (s : Stl K H a xs) (r : RpA K H mu ds xs) : ItOK K cl H mu (.one (.sl ds)) (Itl K a) := fun H1 mu1 h i e hr => by
  have s1 := (e.stl s).sql
  have r1 := r.mo e
  refine ⟨fun d hd => ?_, fun hd => ?_⟩
  · have q : ds[i]? = some d := Option.some.inj hd
    obtain ⟨v, hv, rv⟩ := r1.get q
    refine ⟨⟨xs, v, s1, hv⟩, fun x H' y => ?_⟩
    obtain ⟨rfl, y⟩ := y
    have := y xs s1
    rw [hv] at this
    cases this
    exact ⟨Ext.refl _ _, hr, rv⟩
  · have q : ds[i]? = none := Option.some.inj hd
    exact ⟨xs, s1, by rw [← r1.length]; exact List.getElem?_eq_none_iff.mp q⟩
theorem live_at {H1 : Hp} {mu1 : List Addr} {h : Hs} {n : Nat} {a : Addr} {ds : List D} (hn : mu1[n]? = some a) (hr : HR K H1 mu1 cl h) (q : h[n]?.bind lsO = some ds) : ∃ xs, SqL K H1 a xs ∧ RpA K H1 mu1 ds xs := by
  obtain ⟨ys, h1, h2⟩ := lsO_ok hr hn q
  exact ⟨ys, .inl (.inl h1), h2⟩
theorem lv_get {n i : Nat} {h : Hs} {r : Option D} (e : (Src.lv n).get i h = some r) : ∃ ds, h[n]?.bind lsO = some ds ∧ ds[i]? = r := by
  simp only [Src.get] at e
  exact Option.map_eq_some_iff.mp e
theorem it_lst {a : Addr} {n : Nat} (hn : mu[n]? = some a) : ItOK K cl H mu (.one (.lv n)) (Itl K a) := fun H1 mu1 h i e hr => by
  refine ⟨fun d hd => ?_, fun hd => ?_⟩
  · obtain ⟨ds, q, q2⟩ := lv_get hd
    obtain ⟨xs, s1, r1⟩ := live_at (e.get hn) hr q
    obtain ⟨v, hv, rv⟩ := r1.get q2
    refine ⟨⟨xs, v, s1, hv⟩, fun x H' y => ?_⟩
    obtain ⟨rfl, y⟩ := y
    have := y xs s1
    rw [hv] at this
    cases this
    exact ⟨Ext.refl _ _, hr, rv⟩
  · obtain ⟨ds, q, q2⟩ := lv_get hd
    obtain ⟨xs, s1, r1⟩ := live_at (e.get hn) hr q
    exact ⟨xs, s1, by rw [← r1.length]; exact List.getElem?_eq_none_iff.mp q2⟩
theorem it_rng {lo : Int} {n : Nat} : ItOK K cl H mu (.rng lo n) (Itr lo n) := fun H1 mu1 h i e hr => by
  refine ⟨fun d hd => ?_, fun hd => ?_⟩
  · simp only [Iter.get] at hd
    split at hd
    · rename_i hi
      cases hd
      refine ⟨hi, fun x H' y => ?_⟩
      obtain ⟨rfl, rfl⟩ := y
      exact ⟨Ext.refl _ _, hr, .int _⟩
    · split at hd <;> cases hd
  · simp only [Iter.get] at hd
    split at hd
    · cases hd
    · split at hd
      · rename_i hj; exact Nat.le_of_eq hj.symm
      · cases hd
theorem it_enumT {a : Addr} {ds : List D} {xs : List V} (s : SqT K H a xs) (r : RpA K H mu ds xs) : ItOK K cl H mu (.enum (.st ds)) (IteT K a) := fun H1 mu1 h i e hr => by
  have s1 := e.sqt s
  have r1 := r.mo e
  refine ⟨fun d hd => ?_, fun hd => ?_⟩
  · simp only [Iter.get, Src.get] at hd
    cases q : ds[i]? with
    | none =>
      rw [q] at hd
      by_cases hi : (Src.st ds).len h = i
      · simp only [if_pos hi] at hd; cases hd
      · simp only [if_neg hi] at hd; cases hd
    | some d' =>
      rw [q] at hd
      cases hd
      obtain ⟨v, hv, rv⟩ := r1.get q
      refine ⟨⟨xs, v, s1, hv⟩, fun x H' y => ?_⟩
      obtain ⟨T, z, rfl, hT, rfl, y⟩ := y
      have := y xs s1
      rw [hv] at this
      cases this
      exact ⟨Ext.tupled hT, hr.tupled hT, .tup (.inl (.inl upd_same)) (.cons (.int _) (.one (rv.mono (Ext.tupled hT))))⟩
  · simp only [Iter.get, Src.get] at hd
    cases q : ds[i]? with
    | some d' => rw [q] at hd; cases hd
    | none =>
      rw [q] at hd
      by_cases hi : (Src.st ds).len h = i
      · exact ⟨xs, s1, by rw [← r1.length]; exact hi⟩
      · simp only [if_neg hi] at hd; cases hd
theorem it_enumL {a : Addr} {n : Nat} (hn : mu[n]? = some a) : ItOK K cl H mu (.enum (.lv n)) (Ite K a) := fun H1 mu1 h i e hr => by
  cases q0 : (Src.lv n).get i h with
  | none => exact ⟨fun d hd => (by simp only [Iter.get] at hd; rw [q0] at hd; cases hd), fun hd => (by simp only [Iter.get] at hd; rw [q0] at hd; cases hd)⟩
  | some r0 =>
    obtain ⟨ds, q, q2⟩ := lv_get q0
    obtain ⟨xs, s1, r1⟩ := live_at (e.get hn) hr q
    refine ⟨fun d hd => ?_, fun hd => ?_⟩
    · simp only [Iter.get] at hd
      rw [q0] at hd
      cases r0 with
      | none =>
        by_cases hi : (Src.lv n).len h = i
        · simp only [if_pos hi] at hd; cases hd
        · simp only [if_neg hi] at hd; cases hd
      | some d' =>
        cases hd
        obtain ⟨v, hv, rv⟩ := r1.get q2
        refine ⟨⟨xs, v, s1, hv⟩, fun x H' y => ?_⟩
        obtain ⟨T, z, rfl, hT, rfl, y⟩ := y
        have := y xs s1
        rw [hv] at this
        cases this
        exact ⟨Ext.tupled hT, hr.tupled hT, .tup (.inl (.inl upd_same)) (.cons (.int _) (.one (rv.mono (Ext.tupled hT))))⟩
    · simp only [Iter.get] at hd
      rw [q0] at hd
      cases r0 with
      | some d' => cases hd
      | none => exact ⟨xs, s1, by rw [← r1.length]; exact List.getElem?_eq_none_iff.mp q2⟩
theorem it_zipT {a b : Addr} {ds es : List D} {xs ys : List V} (s : SqT K H a xs) (r : RpA K H mu ds xs) (t : SqT K H b ys) (r' : RpA K H mu es ys) : ItOK K cl H mu (.zip (.st ds) (.st es)) (RZ.ItzT K a b) := fun H1 mu1 h i e hr => by
  have s1 := e.sqt s
  have r1 := r.mo e
  have t1 := e.sqt t
  have r2 := r'.mo e
  refine ⟨fun d hd => ?_, fun hd => ?_⟩
  · simp only [Iter.get, Src.get] at hd
    cases q : ds[i]? with
    | none => rw [q] at hd; cases hd
    | some d1 =>
      cases q2 : es[i]? with
      | none => rw [q, q2] at hd; cases hd
      | some d2 =>
        rw [q, q2] at hd
        cases hd
        obtain ⟨v, hv, rv⟩ := r1.get q
        obtain ⟨v2, hv2, rv2⟩ := r2.get q2
        refine ⟨⟨xs, ys, v, v2, s1, t1, hv, hv2⟩, fun x H' y => ?_⟩
        obtain ⟨T, z, z2, rfl, hT, rfl, y, y2⟩ := y
        have h1 := y xs s1
        rw [hv] at h1
        cases h1
        have h2 := y2 ys t1
        rw [hv2] at h2
        cases h2
        exact ⟨Ext.tupled hT, hr.tupled hT, .tup (.inl (.inl upd_same)) (.cons (rv.mono (Ext.tupled hT)) (.one (rv2.mono (Ext.tupled hT))))⟩
  · simp only [Iter.get, Src.get] at hd
    cases q : ds[i]? with
    | none => exact ⟨xs, ys, s1, t1, .inl (by rw [← r1.length]; exact List.getElem?_eq_none_iff.mp q)⟩
    | some d1 =>
      cases q2 : es[i]? with
      | none => exact ⟨xs, ys, s1, t1, .inr (by rw [← r2.length]; exact List.getElem?_eq_none_iff.mp q2)⟩
      | some d2 => rw [q, q2] at hd; cases hd
theorem it_zipL {a b : Addr} {n m : Nat} (hn : mu[n]? = some a) (hm : mu[m]? = some b) : ItOK K cl H mu (.zip (.lv n) (.lv m)) (Itz K a b) := fun H1 mu1 h i e hr => by
  cases q0 : (Src.lv n).get i h with
  | none => exact ⟨fun d hd => (by simp only [Iter.get] at hd; rw [q0] at hd; cases hd), fun hd => (by simp only [Iter.get] at hd; rw [q0] at hd; cases hd)⟩
  | some r0 =>
    cases p0 : (Src.lv m).get i h with
    | none => exact ⟨fun d hd => (by simp only [Iter.get] at hd; rw [q0, p0] at hd; cases r0 <;> cases hd), fun hd => (by simp only [Iter.get] at hd; rw [q0, p0] at hd; cases r0 <;> cases hd)⟩
    | some r0' =>
      obtain ⟨ds, q, q2⟩ := lv_get q0
      obtain ⟨xs, s1, r1⟩ := live_at (e.get hn) hr q
      obtain ⟨es, p, p2⟩ := lv_get p0
      obtain ⟨ys, t1, r2⟩ := live_at (e.get hm) hr p
      refine ⟨fun d hd => ?_, fun hd => ?_⟩
      · simp only [Iter.get] at hd
        rw [q0, p0] at hd
        cases r0 with
        | none => cases hd
        | some d1 =>
          cases r0' with
          | none => cases hd
          | some d2 =>
            cases hd
            obtain ⟨v, hv, rv⟩ := r1.get q2
            obtain ⟨v2, hv2, rv2⟩ := r2.get p2
            refine ⟨⟨xs, ys, v, v2, s1, t1, hv, hv2⟩, fun x H' y => ?_⟩
            obtain ⟨T, z, z2, rfl, hT, rfl, y, y2⟩ := y
            have h1 := y xs s1
            rw [hv] at h1
            cases h1
            have h2 := y2 ys t1
            rw [hv2] at h2
            cases h2
            exact ⟨Ext.tupled hT, hr.tupled hT, .tup (.inl (.inl upd_same)) (.cons (rv.mono (Ext.tupled hT)) (.one (rv2.mono (Ext.tupled hT))))⟩
      · simp only [Iter.get] at hd
        rw [q0, p0] at hd
        cases r0 with
        | none => exact ⟨xs, ys, s1, t1, .inl (by rw [← r1.length]; exact List.getElem?_eq_none_iff.mp q2)⟩
        | some d1 =>
          cases r0' with
          | none => exact ⟨xs, ys, s1, t1, .inr (by rw [← r2.length]; exact List.getElem?_eq_none_iff.mp p2)⟩
          | some d2 => cases hd
theorem srcOf_ok {d : D} {v : V} {h : Hs} {s : Src} (hr : HR K H mu cl h) (r : Rp K H mu d v) (e : srcOf d h = some s) :
    (∃ a xs ds, v = .ref a ∧ s = .st ds ∧ SqT K H a xs ∧ RpA K H mu ds xs) ∨ (∃ a n xs, v = .ref a ∧ s = .lv n ∧ mu[n]? = some a ∧ SqL K H a xs) ∨ ∃ a xs ds, v = .ref a ∧ s = .sl ds ∧ Stl K H a xs ∧ RpA K H mu ds xs := by
  cases r with
  | tup sq ra => cases e; exact .inl ⟨_, _, _, rfl, rfl, sq, ra⟩
  | @ref n a hn =>
    unfold srcOf at e
    simp only at e
    cases q : h[n]?.bind lsO with
    | none => rw [q] at e; cases e
    | some ds =>
      rw [q] at e
      cases e
      obtain ⟨xs, s1, r1⟩ := live_at hn hr q
      exact .inr (.inl ⟨a, n, xs, rfl, rfl, hn, s1⟩)
  | sl sq ra => cases e; exact .inr (.inr ⟨_, _, _, rfl, rfl, sq, ra⟩)
  | _ => cases e
end
section
variable {X : Cx} {cl : CW} {W : WX} {a b c e o i tg : Expr} {es : List Expr} {ma mb mc : ME} {ms : MA} {pos p p2 p3 tpos : Pos} {elts : List Expr} {kk : Nat}
theorem si_seq (ha : SE X cl W a ma) : SI X cl W tg a (iSeq ma) := by
  refine ⟨fun pins s σ H R I h => ?_⟩
  obtain ⟨mu, env, hh, rel, p⟩ := h
  refine thn (ha.run pins s σ H _ I ⟨mu, env, hh, rel, Post.bind p⟩) fun v s1 ⟨x, H1, I1, r1, q1⟩ => ?_
  obtain ⟨mu1, d, h1, e, hr, rb, p1⟩ := q1
  cases q : srcOf d h1 with
  | none => rw [q] at p1; exact p1.elim
  | some sr =>
    rw [q] at p1
    rcases srcOf_ok hr rb q with ⟨a', xs, ds, rfl, rfl, sq, ra⟩ | ⟨a', n, xs, rfl, rfl, hn, sq⟩ | ⟨a', xs, ds, rfl, rfl, sq, ra⟩
    · cases r1
      obtain ⟨its, rv, ht, hz⟩ := I1.tuple sq
      refine wpAny_pyIter_tuple (show s1.heap.IsTuple a' its.toArray from ht) ?_
      refine ⟨s1.heap.objs.size, [s1.heap.objs.size], _, _, H1, rfl, I1.kept (t' := s1.toks) fun b o e => Heap.get?_push_of_some _ e, turn_tuple a' _, ⟨_, Heap.get?_push_size _ rfl, rfl, rfl⟩, fun b hb => ?_, p1 _ _ _ (Ext.refl _ _) hr (it_tup sq ra)⟩
      have e : b = s1.heap.objs.size := by simpa using hb
      subst e
      exact I1.fpOk (Nat.le_refl _) (I1.hok.fresh (Nat.le_refl _))
    · cases r1
      obtain ⟨its, rv, ht, hz⟩ := I1.list sq
      refine wpAny_pyIter_list ht.isList ?_
      refine ⟨s1.heap.objs.size, [s1.heap.objs.size], _, _, H1, rfl, I1.kept (t' := s1.toks) fun b o e => Heap.get?_push_of_some _ e, turn_list a' _, ⟨_, Heap.get?_push_size _ rfl, rfl, rfl⟩, fun b hb => ?_, p1 _ _ _ (Ext.refl _ _) hr (it_lst hn)⟩
      have e : b = s1.heap.objs.size := by simpa using hb
      subst e
      exact I1.fpOk (Nat.le_refl _) (I1.hok.fresh (Nat.le_refl _))
    · cases r1
      obtain ⟨its, rv, ht, hz⟩ := I1.list sq.sql
      refine wpAny_pyIter_list ht.isList ?_
      refine ⟨s1.heap.objs.size, [s1.heap.objs.size], _, _, H1, rfl, I1.kept (t' := s1.toks) fun b o e => Heap.get?_push_of_some _ e, turn_list a' _, ⟨_, Heap.get?_push_size _ rfl, rfl, rfl⟩, fun b hb => ?_, p1 _ _ _ (Ext.refl _ _) hr (it_sl sq ra)⟩
      have e : b = s1.heap.objs.size := by simpa using hb
      subst e
      exact I1.fpOk (Nat.le_refl _) (I1.hok.fresh (Nat.le_refl _))
theorem rOk_ok {i : Int} (h : rOk i = true) : -(2 ^ 62) ≤ i ∧ i < 2 ^ 62 := by
  have := Nat.le_of_ble_eq_true h
  omega
theorem si_range1 (hm : X.mg "range" = none) (ha : SE X cl W a ma) (hg : Gl X "range" := by rfl) (hs : starEach [a] X.env = [(false, eval a X.env)] := by rfl) : SI X cl W tg (.Call (.Name "range" p) [a] [] pos) (iRange1 ma) :=
  PI.imp (pi_range1 hg hm (pa_cons ha pa_nil hs) hs) fun sg H Q ⟨mu, env, h, rel, p⟩ => ⟨mu, env, h, rel, (Post.bind p).mono fun b H1 ⟨mu1, d, h1, e, hr, rb, p1⟩ => by
    cases rb with
    | int j =>
      simp only at p1
      split at p1
      · rename_i hz
        obtain ⟨z1, z2⟩ := rOk_ok hz
        exact ⟨j, rfl, z1, z2, p1 _ _ _ (Ext.refl _ _) hr it_rng⟩
      · exact p1.elim
    | _ => exact p1.elim⟩
theorem si_range2 (hm : X.mg "range" = none) (ha : SE X cl W a ma) (hb : SE X cl W b mb) (hg : Gl X "range" := by rfl) (hs : starEach [a, b] X.env = [(false, eval a X.env), (false, eval b X.env)] := by rfl) (hs2 : starEach [b] X.env = [(false, eval b X.env)] := by rfl) : SI X cl W tg (.Call (.Name "range" p) [a, b] [] pos) (iRange2 ma mb) :=
  PI.imp (pi_range2 hg hm (pa_cons ha (pa_cons hb pa_nil hs2) (by rw [hs, hs2])) hs hs2) fun sg H Q ⟨mu, env, h, rel, p⟩ => ⟨mu, env, h, rel, (Post.bind p).mono fun b H1 ⟨mu1, d, h1, e, hr, rb, p1⟩ =>
    ⟨mu1, env, h1, ⟨hr, rel.er.mono e⟩, (Post.bind p1).mono fun b2 H2 ⟨mu2, d2, h2, e2, hr2, rb2, p2⟩ => by
    have rb := rb.mono e2
    cases rb with
    | int i =>
      cases rb2 with
      | int j =>
        simp only at p2
        split at p2
        · rename_i hz
          rw [Bool.and_eq_true] at hz
          obtain ⟨z1, z2⟩ := rOk_ok hz.1
          obtain ⟨z3, z4⟩ := rOk_ok hz.2
          exact ⟨i, j, rfl, ⟨z1, z2, z3, z4⟩, p2 _ _ _ (Ext.refl _ _) hr2 it_rng⟩
        · exact p2.elim
      | _ => exact p2.elim
    | _ => exact p2.elim⟩⟩
theorem si_enum (hm : X.mg "enumerate" = none) (ha : SE X cl W a ma) (hg : Gl X "enumerate" := by rfl) (hs : starEach [a] X.env = [(false, eval a X.env)] := by rfl) : SI X cl W (.Tuple elts kk tpos) (.Call (.Name "enumerate" p) [a] [] pos) (iEnum ma) := by
  refine ⟨fun pins s σ H R I h => ?_⟩
  obtain ⟨mu, env, hh, rel, p⟩ := h
  refine Call_ (ld_blt I hg hm boot_enumerate (PyProof.Rows.callWith_type1 (thn ((pa_cons ha pa_nil hs).run pos pins s σ H (fun vs H1 => ∃ mu1 d h1 v, vs = [v] ∧ Ext H mu H1 mu1 ∧ HR X.K H1 mu1 cl h1 ∧ Rp X.K H1 mu1 d v ∧ Post (ItOK X.K cl) X.K cl W σ H1 mu1 (match srcOf d h1 with | some (.sl _) => .bad | some s => .ok (.enum s) h1 | none => .bad) R) I
    ⟨mu, env, hh, rel, (Post.bind p).mono fun b H1 ⟨mu1, d, h1, e, hr, rb, p1⟩ => ⟨mu1, d, h1, b, rfl, e, hr, rb, p1⟩⟩) fun us s1 ⟨vs, H1, I1, r1, q1⟩ => ?_) hs rfl))
  obtain ⟨mu1, d, h1, v, rfl, e, hr, rb, p1⟩ := q1
  cases r1 with
  | cons r rr =>
    cases rr
    cases q : srcOf d h1 with
    | none => rw [q] at p1; exact p1.elim
    | some sr =>
      rw [q] at p1
      rcases srcOf_ok hr rb q with ⟨a', xs, ds, rfl, rfl, sq, ra⟩ | ⟨a', n, xs, rfl, rfl, hn, sq⟩ | ⟨a', xs, ds, rfl, rfl, sq, ra⟩
      · cases r
        obtain ⟨its, rv, p', hz⟩ := I1.tuple sq
        have hlt : a' < s1.heap.objs.size := p'.lt
        refine DSE1.call_enum1 (begins_tuple a' its.toArray) p' fun h' he hit hsz hk => wpAny_pyIter_enum he ?_
        have I2 : Inv X pins σ H1 { s1 with heap := h' } := I1.kept (t' := s1.toks) hk
        refine ⟨s1.heap.objs.size + 1, [s1.heap.objs.size + 1, s1.heap.objs.size], _, _, H1, rfl, I2, turn_enumT a' (s1.heap.objs.size + 1) s1.heap.objs.size, ⟨⟨.none, he⟩, ⟨_, hit, rfl, rfl⟩, Nat.succ_ne_self _, Nat.ne_of_lt hlt, Nat.ne_of_lt (Nat.lt_succ_of_lt hlt)⟩, fun b hb => ?_, p1 _ _ _ (Ext.refl _ _) hr (it_enumT sq ra)⟩
        have e' : b = s1.heap.objs.size + 1 ∨ b = s1.heap.objs.size := by simpa using hb
        have hle : s1.heap.objs.size ≤ b := by
          rcases e' with z | z
          · rw [z]; exact Nat.le_add_right _ _
          · rw [z]; exact Nat.le_refl _
        exact I1.fpOk hle (I1.hok.fresh hle)
      · cases r
        obtain ⟨its, rv, p', hz⟩ := I1.list sq
        refine call_enumerate_list p'.isList fun h' he hit hsz hk => wpAny_pyIter_enum he ?_
        have I2 : Inv X pins σ H1 { s1 with heap := h' } := I1.kept (t' := s1.toks) hk
        refine ⟨s1.heap.objs.size + 1, [s1.heap.objs.size + 1, s1.heap.objs.size], _, _, H1, rfl, I2, turn_enum a' (s1.heap.objs.size + 1) s1.heap.objs.size, ⟨⟨.none, he⟩, hit, Nat.succ_ne_self _⟩, fun b hb => ?_, p1 _ _ _ (Ext.refl _ _) hr (it_enumL hn)⟩
        have e' : b = s1.heap.objs.size + 1 ∨ b = s1.heap.objs.size := by simpa using hb
        have hle : s1.heap.objs.size ≤ b := by
          rcases e' with z | z
          · rw [z]; exact Nat.le_add_right _ _
          · rw [z]; exact Nat.le_refl _
        exact I1.fpOk hle (I1.hok.fresh hle)
      · exact p1.elim
theorem si_zip (hm : X.mg "zip" = none) (ha : SE X cl W a ma) (hb : SE X cl W b mb) (hg : Gl X "zip" := by rfl)
    (hs : starEach [a, b] X.env = (false, eval a X.env) :: starEach [b] X.env := by rfl) (hs2 : starEach [b] X.env = (false, eval b X.env) :: starEach [] X.env := by rfl) (hpl : (backTo pos (starEach [b] X.env)).any (·.1) = false := by rfl) :
    SI X cl W (.Tuple elts kk tpos) (.Call (.Name "zip" p) [a, b] [] pos) (iZip ma mb) :=
  PI.imp (RZ.pi_zipA hg hm (pa_cons ha (pa_cons hb pa_nil hs2) hs) hs hpl) fun sg H Q ⟨mu, env, h, rel, p⟩ => ⟨mu, env, h, rel, (Post.bind p).mono fun b H1 ⟨mu1, d, h1, e, hr, rb, p1⟩ =>
    ⟨mu1, env, h1, ⟨hr, rel.er.mono e⟩, (Post.bind p1).mono fun b2 H2 ⟨mu2, d2, h2, e2, hr2, rb2, p2⟩ => by
      have rb := rb.mono e2
      cases q : srcOf d h2 with
      | none => rw [q] at p2; exact p2.elim
      | some sr =>
        cases q2 : srcOf d2 h2 with
        | none => rw [q, q2] at p2; cases sr <;> exact p2.elim
        | some sr2 =>
          rw [q, q2] at p2
          rcases srcOf_ok hr2 rb q with ⟨a', xs, ds, rfl, rfl, sq, ra⟩ | ⟨a', n, xs, rfl, rfl, hn, sq⟩ | ⟨a', xs, ds, rfl, rfl, sq, ra⟩
          · rcases srcOf_ok hr2 rb2 q2 with ⟨a'', ys, es', rfl, rfl, sq', ra'⟩ | ⟨a'', n', ys, rfl, rfl, hn', sq'⟩ | ⟨a'', ys, es', rfl, rfl, sq', ra'⟩
            · exact ⟨a', a'', xs, ys, rfl, .inr ⟨sq, sq', p2 _ _ _ (Ext.refl _ _) hr2 (it_zipT sq ra sq' ra')⟩⟩
            · exact p2.elim
            · exact p2.elim
          · rcases srcOf_ok hr2 rb2 q2 with ⟨a'', ys, es', rfl, rfl, sq', ra'⟩ | ⟨a'', n', ys, rfl, rfl, hn', sq'⟩ | ⟨a'', ys, es', rfl, rfl, sq', ra'⟩
            · exact p2.elim
            · exact ⟨a', a'', xs, ys, rfl, .inl ⟨sq, sq', p2 _ _ _ (Ext.refl _ _) hr2 (it_zipL hn hn')⟩⟩
            · exact p2.elim
          · rcases srcOf_ok hr2 rb2 q2 with ⟨a'', ys, es', rfl, rfl, sq', ra'⟩ | ⟨a'', n', ys, rfl, rfl, hn', sq'⟩ | ⟨a'', ys, es', rfl, rfl, sq', ra'⟩
            · exact p2.elim
            · exact p2.elim
            · exact p2.elim⟩⟩
end
end DS

set_option Elab.async false
set_option linter.all false
set_option maxRecDepth 100000
set_option maxHeartbeats 4000000
/-! DSH: loops, comprehensions, what is thrown away, defs and calls. -/
namespace DS
open PySem PySem.Spec PyProof.Rows L2

/-! ### what refers below n -/
mutual
def dLow (n : Nat) : D → Bool
  | .tup xs => dLows n xs
  | .sl xs => dLows n xs
  | .ref k => decide (k < n)
  | .non => true
  | .bl _ => true
  | .int _ => true
  | .str _ => true
def dLows (n : Nat) : List D → Bool
  | [] => true
  | x :: xs => dLow n x && dLows n xs
end
def oLow (n : Nat) : O → Bool
  | .lst xs => dLows n xs
  | .dct kvs => dLows n (kvs.map (·.2))
  | .dtt kvs => dLows n (kvs.map (·.1)) && dLows n (kvs.map (·.2))
  | .dtz kvs => dLows n (kvs.map (·.1)) && dLows n (kvs.map (·.2))
  | .otp xs => dLows n xs
  | .ins _ fs => dLows n (fs.map (·.2))
  | .xob _ fs => dLows n (fs.map (·.2))
def eLow (n : Nat) (e : En) : Bool := e.all fun o => match o with | some d => dLow n d | none => true
def gcR (n : Nat) : R D → R D
  | .ok d h => if (h.take n).all (oLow n) = true then
      (if dLow n d = true then .ok d (h.take n)
       else match d with
        | .ref k => match h[k]? with
          | some o => if (oLow n o && decide (n ≤ k)) = true then .ok (.ref n) (h.take n ++ [o]) else .ok d h
          | none => .ok d h
        | _ => .ok d h)
      else .ok d h
  | .exc x h => .exc x h
  | .bad => .bad
def wipeE (e : En) : List Nat → En
  | [] => e
  | v :: vs => (wipeE e vs).set v none
def tidyE (clr : List Nat) (n : Nat) (e : En) (h : Hs) : En × Hs :=
  if (eLow n (wipeE e clr) && (h.take n).all (oLow n)) = true then (wipeE e clr, h.take n) else (wipeE e clr, h)
/-- a body whose own names are forgotten behind it, and what it made with them -/
def sTidy (clr : List Nat) (m : MS) : MS := fun env h => match m env h with
  | .nx e h1 => .nx (tidyE clr h.length e h1).1 (tidyE clr h.length e h1).2
  | .ct e h1 => .ct (tidyE clr h.length e h1).1 (tidyE clr h.length e h1).2
  | r => r

section
variable {K : PySem.W.Frag} {cl : CW} {H : Hp} {mu mu' : List Addr} {n : Nat}
mutual
theorem Rp.cut (hp : mu <+: mu') (hl : n ≤ mu.length) : ∀ {d : D} {v : V}, Rp K H mu' d v → dLow n d = true → Rp K H mu d v
  | _, _, .non, _ => .non
  | _, _, .bl b, _ => .bl b
  | _, _, .int i, _ => .int i
  | _, _, .str x, _ => .str x
  | _, _, .tup s r, h => .tup s (RpA.cutB hp hl r (by simpa only [dLow] using h))
  | _, _, .sl s r, h => .sl s (RpA.cutB hp hl r (by simpa only [dLow] using h))
  | _, _, @Rp.ref _ _ _ k a hk, h => by
    have hk' : k < n := by simpa only [dLow, decide_eq_true_eq] using h
    obtain ⟨t, rfl⟩ := hp
    rw [List.getElem?_append_left (by omega)] at hk
    exact .ref hk
theorem RpA.cutB (hp : mu <+: mu') (hl : n ≤ mu.length) : ∀ {ds : List D} {vs : List V}, RpA K H mu' ds vs → dLows n ds = true → RpA K H mu ds vs
  | _, _, .nil, _ => .nil
  | _, _, .cons a b, h => by
    simp only [dLows, Bool.and_eq_true] at h
    exact .cons (Rp.cut hp hl a h.1) (RpA.cutB hp hl b h.2)
end
theorem RpP.cutB {κ : Type} (hp : mu <+: mu') (hl : n ≤ mu.length) : ∀ {ks : List (κ × D)} {vs : List (κ × V)}, RpP K H mu' ks vs → dLows n (ks.map (·.2)) = true → RpP K H mu ks vs
  | _, _, .nil, _ => .nil
  | _, _, .cons a b, h => by
    simp only [List.map_cons, dLows, Bool.and_eq_true] at h
    exact .cons ⟨a.1, Rp.cut hp hl a.2 h.1⟩ (RpP.cutB hp hl b h.2)
theorem KeyR.cutB (hp : mu <+: mu') (hl : n ≤ mu.length) : ∀ {ks : List (D × D)} {xs : List (NestedKey × Addr × Value)}, Paired (KeyR K H mu') ks xs → dLows n (ks.map (·.1)) = true → dLows n (ks.map (·.2)) = true → Paired (KeyR K H mu) ks xs
  | _, _, .nil, _, _ => .nil
  | _, _, .cons a b, h, k => by
    simp only [List.map_cons, dLows, Bool.and_eq_true] at h k
    obtain ⟨z1, z2, z3, v, z4, z5⟩ := a
    exact .cons ⟨z1, z2, Rp.cut hp hl z3 h.1, v, z4, Rp.cut hp hl z5 k.1⟩ (KeyR.cutB hp hl b h.2 k.2)
theorem OR.cutB (hp : mu <+: mu') (hl : n ≤ mu.length) {a : Addr} {o : O} (r : OR K H mu' cl a o) (h : oLow n o = true) : OR K H mu cl a o := by
  cases o with
  | lst ds => obtain ⟨xs, h1, h2⟩ := r; exact ⟨xs, h1, h2.cutB hp hl h⟩
  | dct ks => obtain ⟨xs, h1, h2⟩ := r; exact ⟨xs, h1, h2.cutB hp hl h⟩
  | dtt ks =>
    obtain ⟨xs, h1, h2, h3, h4, h5⟩ := r
    have h' : (dLows n (ks.map (·.1)) && dLows n (ks.map (·.2))) = true := h
    rw [Bool.and_eq_true] at h'
    exact ⟨xs, h1, h2, h3, h4, KeyR.cutB hp hl h5 h'.1 h'.2⟩
  | dtz ks =>
    obtain ⟨xs, h1, h2, h3, h4, h5⟩ := r
    have h' : (dLows n (ks.map (·.1)) && dLows n (ks.map (·.2))) = true := h
    rw [Bool.and_eq_true] at h'
    exact ⟨xs, h1, h2, h3, h4, KeyR.cutB hp hl h5 h'.1 h'.2⟩
  | otp ds => obtain ⟨o, xs, h1, h2, h3, h4⟩ := r; exact ⟨o, xs, h1, h2, h3, h4.cutB hp hl h⟩
  | ins c fs => obtain ⟨dx, gs, h1, h2⟩ := r; exact ⟨dx, gs, h1, h2.cutB hp hl h⟩
  | xob c fs =>
    obtain ⟨dd, h1, h2⟩ := r
    refine ⟨dd, h1, ?_⟩
    rcases h2 with z | ⟨d, gs, z1, z2, z3⟩
    · exact .inl z
    · exact .inr ⟨d, gs, z1, z2, z3.cutB hp hl h⟩
theorem HR.cutB {h' : Hs} (hp : mu <+: mu') (hl : mu.length = n) (r : HR K H mu' cl h') (h : (h'.take n).all (oLow n) = true) : HR K H mu cl (h'.take n) where
  len := by
    have : mu.length ≤ mu'.length := hp.length_le
    rw [r.len] at this
    rw [List.length_take]; omega
  nd := r.nd.sublist hp.sublist
  tb := fun t ht => (r.tb t ht).keep (fun _ _ _ e _ => e) fun b _ nb _ _ hb => nb (hp.subset hb)
  obj := fun m o a e1 e2 => by
    have hb : oLow n o = true := List.all_eq_true.mp h o (List.mem_of_getElem? e1)
    have hm : m < n := by have := (List.getElem?_eq_some_iff.mp e2).1; omega
    rw [List.getElem?_take_of_lt hm] at e1
    have e2' : mu'[m]? = some a := by
      obtain ⟨t, rfl⟩ := hp
      rw [List.getElem?_append_left (by omega)]; exact e2
    exact (r.obj m o a e1 e2').cutB hp (Nat.le_of_eq hl.symm) hb
theorem Ext.cutB {H0 : Hp} (e : Ext H0 mu H mu') : Ext H0 mu H mu := ⟨e.frame, e.tup, e.frz, List.prefix_refl _, fun _ h n => absurd h n⟩
theorem gc_ok {H0 : Hp} {d d' : D} {v : V} {h' h'' : Hs} (e : Ext H0 mu H mu') (hl : mu.length = n) (hr : HR K H mu' cl h') (r : Rp K H mu' d v) (q : gcR n (.ok d h') = .ok d' h'') :
    ∃ mu'', Ext H0 mu H mu'' ∧ HR K H mu'' cl h'' ∧ Rp K H mu'' d' v := by
  have same : R.ok d h' = R.ok d' h'' → ∃ mu'', Ext H0 mu H mu'' ∧ HR K H mu'' cl h'' ∧ Rp K H mu'' d' v := fun z => by
    cases z; exact ⟨mu', e, hr, r⟩
  unfold gcR at q
  simp only at q
  split at q
  · rename_i hb
    split at q
    · rename_i hd
      cases q
      exact ⟨mu, e.cutB, hr.cutB e.pre hl hb, r.cut e.pre (Nat.le_of_eq hl.symm) hd⟩
    · split at q
      · rename_i k hd
        split at q
        · rename_i o ho
          split at q
          · rename_i hz
            rw [Bool.and_eq_true, decide_eq_true_eq] at hz
            cases q
            cases r with
            | @ref _ a ha =>
              have ro := hr.obj k o a ho ha
              have nm : a ∉ mu := fun hm => by
                obtain ⟨j, hj, ej⟩ := List.getElem_of_mem hm
                obtain ⟨t, et⟩ := e.pre
                have h1 : mu'[j]? = some a := by rw [← et, List.getElem?_append_left hj]; simp [hj, ej]
                obtain ⟨g1, g2⟩ := List.getElem?_eq_some_iff.mp h1
                obtain ⟨g3, g4⟩ := List.getElem?_eq_some_iff.mp ha
                have := (List.getElem_inj hr.nd).mp (g2.trans g4.symm)
                omega
              have hcut := hr.cutB e.pre hl hb
              have M : Mo H mu H (mu ++ [a]) := ⟨fun _ _ z => z, fun _ _ _ z => z, List.prefix_append _ _⟩
              refine ⟨mu ++ [a], ⟨e.frame, e.tup, e.frz, List.prefix_append _ _, fun b hb' nb => ?_⟩, ⟨?_, ?_, fun m o' b e1 e2 => ?_, fun t ht => (hr.tb t ht).keep (fun _ _ _ e _ => e) fun b _ nb _ _ hb' => ?_⟩, .ref ?_⟩
              · rcases List.mem_append.mp hb' with z | z
                · exact absurd z nb
                · have : b = a := by simpa using z
                  subst this
                  exact e.new b (List.mem_of_getElem? ha) nb
              · rw [List.length_append, List.length_append, hcut.len]; simp
              · rw [List.nodup_append]
                refine ⟨hcut.nd, by simp, fun x hx y hy z => ?_⟩
                have : y = a := by simpa using hy
                subst this; subst z; exact nm hx
              · by_cases hm : m < (h'.take n).length
                · rw [List.getElem?_append_left hm] at e1
                  rw [List.getElem?_append_left (by rw [hcut.len]; exact hm)] at e2
                  exact (hcut.obj m o' b e1 e2).mo M fun u z => z
                · have hm' := Nat.le_of_not_lt hm
                  rw [List.getElem?_append_right hm'] at e1
                  rw [List.getElem?_append_right (by rw [hcut.len]; exact hm')] at e2
                  have e0 : m - (h'.take n).length = 0 := by
                    cases q : m - (h'.take n).length with
                    | zero => rfl
                    | succ k => rw [q] at e1; simp at e1
                  rw [e0] at e1
                  rw [hcut.len, e0] at e2
                  simp at e1 e2
                  subst e1; subst e2
                  exact (ro.cutB e.pre (Nat.le_of_eq hl.symm) hz.1).mo M fun u z => z
              · rcases List.mem_append.mp hb' with z | z
                · exact nb (e.pre.subset z)
                · have : b = a := by simpa using z
                  subst this
                  exact nb (List.mem_of_getElem? ha)
              · rw [List.getElem?_append_right (by omega)]; simp [hl]
          · exact same q
        · exact same q
      · exact same q
  · exact same q
end
theorem wipeE_len (e : En) : ∀ vs, (wipeE e vs).length = e.length
  | [] => rfl
  | v :: vs => by unfold wipeE; rw [List.length_set, wipeE_len e vs]
theorem wipeE_some {e : En} {i : Nat} {d : D} : ∀ {vs : List Nat}, (wipeE e vs)[i]? = some (some d) → e[i]? = some (some d) ∧ i ∉ vs
  | [], h => ⟨h, by simp⟩
  | v :: vs, h => by
    unfold wipeE at h
    by_cases hi : v = i
    · subst hi
      by_cases hv : v < (wipeE e vs).length
      · rw [List.getElem?_set_self hv] at h; cases h
      · rw [List.getElem?_eq_none (by simpa using hv)] at h; cases h
    · rw [List.getElem?_set_ne hi] at h
      obtain ⟨h1, h2⟩ := wipeE_some h
      exact ⟨h1, fun hm => (List.mem_cons.mp hm).elim (fun z => hi z.symm) h2⟩
section
variable {X : Cx} {cl : CW} {W : WX} {a b c e o i tg : Expr} {es : List Expr} {ma mb mc : ME} {mt : MT} {ms : MA} {s1 s2 : MS} {pos p p2 p3 : Pos} {st : Stmt} {rest : List Stmt}
theorem ER.wiped {K : PySem.W.Frag} {H : Hp} {mu : List Addr} {env : En} {sg : Sg} (er : ER K H mu env sg) (vs : List Nat) : ER K H mu (wipeE env vs) sg :=
  ⟨by rw [wipeE_len]; exact er.1, fun i d q => er.2 i d (wipeE_some q).1⟩
theorem eLow_at {n : Nat} {e : En} {i : Nat} {d : D} (h : eLow n e = true) (q : e[i]? = some (some d)) : dLow n d = true := by
  have := List.all_eq_true.mp h _ (List.mem_of_getElem? q)
  exact this
theorem tidy_ok {K : PySem.W.Frag} {H0 H : Hp} {mu mu' : List Addr} {clr : List Nat} {n : Nat} {env : En} {h : Hs} {sg : Sg} (e : Ext H0 mu H mu') (hl : mu.length = n) (hr : HR K H mu' cl h) (er : ER K H mu' env sg) :
    ∃ mu'', Ext H0 mu H mu'' ∧ HR K H mu'' cl (tidyE clr n env h).2 ∧ ER K H mu'' (tidyE clr n env h).1 sg := by
  unfold tidyE
  split
  · rename_i hz
    rw [Bool.and_eq_true] at hz
    have ew := er.wiped clr
    exact ⟨mu, e.cutB, hr.cutB e.pre hl hz.2, ew.1, fun i d q => let ⟨v, h1, h2⟩ := ew.2 i d q; ⟨v, h1, h2.cut e.pre (Nat.le_of_eq hl.symm) (eLow_at hz.1 q)⟩⟩
  · exact ⟨mu', e, hr, er.wiped clr⟩
theorem sb_tidy {clr : List Nat} {sts : List Stmt} (h : SB X cl W sts s1) : SB X cl W sts (sTidy clr s1) :=
  PSs.imp h fun D sg H ⟨mu, env, h, rel, p⟩ => ⟨mu, env, h, rel, by
    unfold sTidy at p
    cases q : s1 env h with
    | nx e' h' =>
      rw [q] at p
      intro sg' H' mu' e hr er
      obtain ⟨mu2, e2, hr2, er2⟩ := tidy_ok (clr := clr) (n := h.length) e rel.hr.len hr er
      exact p sg' H' mu2 e2 hr2 er2
    | ct e' h' =>
      rw [q] at p
      intro sg' H' mu' e hr er
      obtain ⟨mu2, e2, hr2, er2⟩ := tidy_ok (clr := clr) (n := h.length) e rel.hr.len hr er
      exact p sg' H' mu2 e2 hr2 er2
    | ret d h' => rw [q] at p; exact p
    | bk e' h' => rw [q] at p; exact p
    | exc x e' h' => rw [q] at p; exact p
    | bad => rw [q] at p; exact p⟩
end

/-! ### for, while -/
def forGo (it : Iter) (g : MG) (body : MS) : Nat → Nat → En → Hs → RS
  | 0, i, e, h => match it.get i h with
    | some none => .nx e h
    | _ => .bad
  | k + 1, i, e, h => match it.get i h with
    | some none => .nx e h
    | some (some d) => match g d e h with
      | .ok e1 h1 => match body e1 h1 with
        | .nx e2 h2 => forGo it g body k (i + 1) e2 h2
        | .ct e2 h2 => forGo it g body k (i + 1) e2 h2
        | .bk e2 h2 => .nx e2 h2
        | r => r
      | _ => .bad
    | none => .bad
def sFor (mi : MI) (g : MG) (body : MS) : MS := fun env h => ofR env (mi env h) fun it h1 => forGo it g body (it.len h1) 0 env h1
def whGo (t : MT) (body : MS) : Nat → En → Hs → RS
  | 0, _, _ => .bad
  | k + 1, e, h => ofR e (t e h) fun c h1 => if c = true then match body e h1 with
      | .nx e2 h2 => whGo t body k e2 h2
      | .ct e2 h2 => whGo t body k e2 h2
      | .bk e2 h2 => .nx e2 h2
      | r => r
    else .nx e h1
def sWhile (fuel : Nat) (t : MT) (body : MS) : MS := fun env h => whGo t body fuel env h
section
variable {X : Cx} {cl : CW} {W : WX} {a b c e o i tg iter : Expr} {es : List Expr} {ma mb mc : ME} {mt : MT} {ms : MA} {s1 s2 : MS} {pos p p2 p3 : Pos} {st : Stmt} {rest body : List Stmt} {mi : MI} {g : MG}
theorem ss_for (hp : PassesOwn (model X.prog X.w) X.A X.env X.xe) (hc : X.calm = true) (hi : SI X cl W tg iter mi) (hg : SG X cl tg g) (hb : SB X cl W body s1)
    (hs : ∀ x, foldedSetIterable iter X.env x = pure x := by intro _; rfl) : SS X cl W (.For tg iter body [] pos) (sFor mi g s1) :=
  PS.imp (ps_for hp hc hi hg hb hs) fun D sg H ⟨mu, env, h, rel, p⟩ => ⟨mu, env, h, rel, (PostS.of (rl := ItOK X.K cl) rel.er p).mono fun J H1 ⟨mu1, it, h1, e, hr, itok, p1⟩ => by
    refine ⟨fun i m sg H => ∃ mu env h, Ext H1 mu1 H mu ∧ Rel X.K cl H mu h env sg ∧ PostS X.K cl W D H mu (forGo it g s1 m i env h), ⟨_, mu1, env, h1, Ext.refl _ _, ⟨hr, rel.er.mono e⟩, p1⟩, ?_⟩
    rintro i m sg' H' ⟨mu2, env2, h2, e2, rel2, p2⟩
    obtain ⟨ok1, ok2⟩ := itok H' mu2 h2 i e2.mo rel2.hr
    cases q : it.get i h2 with
    | none =>
      cases m with
      | zero => unfold forGo at p2; rw [q] at p2; exact p2.elim
      | succ k => unfold forGo at p2; rw [q] at p2; exact p2.elim
    | some r =>
      cases r with
      | none =>
        refine .inl ⟨ok2 q, ?_⟩
        cases m with
        | zero => unfold forGo at p2; rw [q] at p2; exact p2 _ _ _ (Ext.refl _ _) rel2.hr rel2.er
        | succ k => unfold forGo at p2; rw [q] at p2; exact p2 _ _ _ (Ext.refl _ _) rel2.hr rel2.er
      | some d =>
        cases m with
        | zero => unfold forGo at p2; rw [q] at p2; exact p2.elim
        | succ k =>
          unfold forGo at p2
          rw [q] at p2
          simp only at p2
          obtain ⟨go, yl⟩ := ok1 d q
          refine .inr ⟨go, fun sg H => ∃ mu env h, Ext H1 mu1 H mu ∧ Rel X.K cl H mu h env sg ∧ PostS X.K cl W D H mu (forGo it g s1 k (i + 1) env h), fun σ' H' hN => ⟨k, Nat.lt_succ_self k, hN⟩, fun x H3 y => ?_⟩
          obtain ⟨e3, hr3, rx⟩ := yl x H3 y
          refine ⟨mu2, env2, h2, d, ⟨hr3, rel2.er.mono e3⟩, rx, ?_⟩
          cases q1 : g d env2 h2 with
          | exc x h' => rw [q1] at p2; exact p2
          | bad => rw [q1] at p2; exact p2
          | ok e4 h4 =>
            rw [q1] at p2
            simp only at p2
            intro sg4 H4 mu4 e4' hr4 er4
            refine ⟨mu4, e4, h4, ⟨hr4, er4⟩, ?_⟩
            have E4 : Ext H' mu2 H4 mu4 := e3.trans e4'
            cases q2 : s1 e4 h4 with
            | nx e5 h5 => rw [q2] at p2; exact fun sg5 H5 mu5 e5' hr5 er5 => ⟨mu5, e5, h5, e2.trans (E4.trans e5'), ⟨hr5, er5⟩, p2.ext (E4.trans e5')⟩
            | ct e5 h5 => rw [q2] at p2; exact fun sg5 H5 mu5 e5' hr5 er5 => ⟨mu5, e5, h5, e2.trans (E4.trans e5'), ⟨hr5, er5⟩, p2.ext (E4.trans e5')⟩
            | bk e5 h5 => rw [q2] at p2; exact p2.ext E4
            | ret d5 h5 => rw [q2] at p2; exact p2.ext E4
            | exc x5 e5 h5 => rw [q2] at p2; exact p2.ext E4
            | bad => rw [q2] at p2; exact p2⟩
theorem ss_while {fuel : Nat} (hp : PassesOwn (model X.prog X.w) X.A X.env X.xe) (hc : ST X cl W c mt) (hb : SB X cl W body s1) : SS X cl W (.While c body [] pos) (sWhile fuel mt s1) :=
  PS.imp (ps_while hp hc hb) fun D sg H ⟨mu, env, h, rel, p⟩ => by
    refine ⟨fun m sg H => ∃ mu env h, Rel X.K cl H mu h env sg ∧ PostS X.K cl W D H mu (whGo mt s1 m env h), ⟨fuel, mu, env, h, rel, p⟩, ?_⟩
    rintro m sg' H' ⟨mu2, env2, h2, rel2, p2⟩
    cases m with
    | zero => exact p2.elim
    | succ k =>
      unfold whGo at p2
      refine ⟨mu2, env2, h2, rel2, (PostS.of (rl := rlB) rel2.er p2).mono fun b H3 ⟨mu3, d, h3, e, hr, rb, p3⟩ => ?_⟩
      cases rb
      cases b with
      | false => exact p3 _ _ _ (Ext.refl _ _) hr (rel2.er.mono e)
      | true =>
        simp only [if_true] at p3 ⊢
        refine ⟨fun sg H => ∃ mu env h, Rel X.K cl H mu h env sg ∧ PostS X.K cl W D H mu (whGo mt s1 k env h), fun σ' H' hN => ⟨k, Nat.lt_succ_self k, hN⟩, mu3, env2, h3, ⟨hr, rel2.er.mono e⟩, ?_⟩
        cases q2 : s1 env2 h3 with
        | nx e5 h5 => rw [q2] at p3; exact fun sg5 H5 mu5 e5' hr5 er5 => ⟨mu5, e5, h5, ⟨hr5, er5⟩, p3.ext e5'⟩
        | ct e5 h5 => rw [q2] at p3; exact fun sg5 H5 mu5 e5' hr5 er5 => ⟨mu5, e5, h5, ⟨hr5, er5⟩, p3.ext e5'⟩
        | bk e5 h5 => rw [q2] at p3; exact p3
        | ret d5 h5 => rw [q2] at p3; exact p3
        | exc x5 e5 h5 => rw [q2] at p3; exact p3
        | bad => rw [q2] at p3; exact p3
end
end DS

set_option Elab.async false
set_option linter.all false
set_option maxRecDepth 100000
set_option maxHeartbeats 4000000
/-! DSHG: room with nothing guarded under way; defs and the law's call by it. -/
namespace DS
open PySem PySem.Spec PyProof.Rows L2
/-- gd: nothing guarded is under way (else nothing is known of guards) -/
structure Rm (gd : Bool) (k : Nat) (A : Around) : Prop where
  r : Room k A
  gs : gd = true → A.guards = some []
theorem Rm.g {k : Nat} {A : Around} (x : Rm true k A) : A.guards = some [] := x.gs rfl
theorem Rm.lo {gd : Bool} {k : Nat} {A : Around} (x : Rm gd k A) : Rm false k A := ⟨x.r, fun z => by cases z⟩
theorem Rm.mono {gd : Bool} {j k : Nat} {A : Around} (x : Rm gd k A) (h : j ≤ k) : Rm gd j A := ⟨x.r.mono h, x.gs⟩
theorem Rm.units {gd : Bool} {k : Nat} {A : Around} (x : Rm gd k A) : A.units + 64 < cLine := x.r.units
theorem Rm.hu {gd : Bool} {k : Nat} {A : Around} (x : Rm gd k A) : A.units + 1 < cLine := hu_of x.r
theorem Rm.deeper {gd : Bool} {k : Nat} {A : Around} (x : Rm gd (k + 1) A) (env : Env) : Rm gd k (A.deeper env) := ⟨x.r.deeper env, x.gs⟩
theorem Rm.make {gd : Bool} {k : Nat} {A : Around} (x : Rm gd (k + 1) A) (C : Addr) (us : List Value) (kw : List (Str × Value)) : Rm gd k (A.under (.builtin "type.__call__" ⟨.ref C :: us, kw⟩)) :=
  ⟨x.r.make C us kw, fun z => by
    show pushGuards (Code.builtin "type.__call__" ⟨.ref C :: us, kw⟩).guards A.guards = some []
    rw [x.gs z]; rfl⟩
theorem Rm.caller {gd : Bool} {k : Nat} (h : Room k callerA) : Rm gd k callerA := ⟨h, fun _ => rfl⟩
/-- a def keeps its promise where nothing guarded is under way -/
structure FnG (gd : Bool) (P : Program) (w : World) (K : PySem.W.Frag) (mg : Str → Option Value) (base : Heap) (k : Nat) (f : Addr) (fd : FuncData) (ps : List Str) (sp : Sp) : Prop where
  len : ∀ vs H Q E, sp vs H Q E → vs.length = ps.length
  run : ∀ (A : Around) (outer : List Env) (s : Shared) (H : Hp) (args : Args) (us : List Value) (vs : List V) (Q : VK) (E : XK), Rm gd k A → Env0 P w K mg base A outer s H → BindsTo s fd args (ps.zip us) → Vals vs us → sp vs H Q E → codeAny (model P w) A (.call (.ref f) args) (CR (L2.CX P w) outer P w H s Q E) s
section
variable {P : Program} {w : World} {K : PySem.W.Frag} {mg : Str → Option Value} {base : Heap}
theorem FnG.of {gd : Bool} {x qual : Str} {st : Stmt} {f : Addr} {fd : FuncData} {N ps : List Str} {k : Nat} {sp : Sp} (F : Fun K x qual st f fd) (S : FnScope N ps (defScope st)) (len : ∀ vs H Q E, sp vs H Q E → vs.length = ps.length)
    (hbody : ∀ (cdv : Value) (A : Around) (outer : List Env) (s : Shared) (H : Hp) (vs : List V) (Q : VK) (E : XK), Rm gd k (A.deeper (envOfC qual (defScope st) s.heap.objs.size f cdv)) → sp vs H Q E → ∃ t, PSs (cxOf (L2.CX P w) P w K mg base N qual (defScope st) f cdv A outer s H E) (defBody st) t ∧ t { nx := fun _ H' => Q .non H', rt := Q } (start N vs) H) :
    FnG gd P w K mg base (k + 1) f fd ps sp := by
  obtain ⟨oc, od, kV, doc, pm, an, cdv, ct, osl, rfl, lk, hcd⟩ := F.ex
  constructor
  · exact len
  intro A outer s H args us vs Q E hr e0 hb rv hsp
  have hold : ∀ b o, base.get? b = some o → s.heap.get? b = some o := fun b o e => (e0.bs b o e).1
  have kin : K.In s.heap := e0.mod.kin.keeps hold
  obtain ⟨t, ht, hq⟩ := hbody cdv A outer s H vs Q E (hr.deeper _) hsp
  refine codeAny_call_function hr.r.depth (kin _ _ lk) rfl S.co S.gen rfl (PySem.W.codeRec_of kin hcd) (hb _ _ _ _ (wpAny_newFunctionEnv_cells S.kind (fun y hy => ?_) fun env he s1 z => ?_))
  · have par := S.par y.1 (List.of_mem_zip (show (y.1, y.2) ∈ ps.zip us from hy)).1
    exact par.imp id fun q => ⟨q, PySem.W.cellsFrom_some _ _ _ (.inl q)⟩
  · subst he
    have I := inv_start (CX := L2.CX P w) (E := E) S hr.r.hd e0 (len _ _ _ _ hsp) rv z
    refine ⟨(e0.mod.nolimit.keeps hold).keeps z.toInCall.keep, codeAny_func (wpAny_mono (ht.run [] s1 (start N vs) H _ I hq) (fun fl s' hs => ?_) fun _ _ hx => hx)⟩
    cases fl with
    | next => obtain ⟨_, H', J, q⟩ := hs; exact ⟨V.non, H', J.os, J.bare, J.base, J.hok, rfl, q⟩
    | ret u => obtain ⟨v, _, H', J, ru, q⟩ := hs; exact ⟨v, H', J.os, J.bare, J.base, J.hok, ru, q⟩
    | brk => obtain ⟨_, _, _, q⟩ := hs; cases q
    | cont => obtain ⟨_, _, _, q⟩ := hs; cases q
end
theorem runG {gd : Bool} {X : Cx} {k : Nat} {f : Addr} {fd : FuncData} {ps : List Str} {sp : Sp} {W : WX} {pins : List (Addr × Obj)} {σ : L2.St} {H : Hp} {s : Shared} {Q : VK} {us : List Value} {vs : List V} (F : FnG gd X.prog X.w X.K X.mg X.base k f fd ps sp) (hr : Rm gd k X.A) (hb : Binds X.K fd ps []) (tk : Takes X W)
    (I : Inv X pins σ H s) (r : Vals vs us) (h : sp vs H Q (WE W σ)) : wpAny (model X.prog X.w) X.A (call (.ref f) us) (EP X pins σ Q) X.xe s := by
  have hl : us.length = ps.length := r.length.symm.trans (F.len _ _ _ _ h)
  have b := hb s us I.kIn (by rw [List.append_nil]; exact hl)
  rw [List.append_nil] at b
  refine wpAny_call (codeAny_mono (F.run X.A X.stack s H ⟨us, []⟩ us vs Q _ hr I.env0 b r h) ?_)
  rintro (e | fl) s' hq
  · exact passAt tk σ pins H s e s' I hq
  · cases fl with
    | ret u => exact I.after hq
    | _ => exact hq.elim
/-- the law's call, from outside -/
theorem law_callG {gd : Bool} {P : Program} {w : World} {K : PySem.W.Frag} {mg mb : Str → Option Value} {k : Nat} {fa a : Addr} {fd : FuncData} {x : Str} {sp : Sp} {s₁ : Shared} {vs : List Value} {ns : List Int} (KX : K.In s₁.heap) (hns : s₁.heap.Ns mainGlobals mg) (hb : s₁.heap.Ns builtinsNs mb) (hbb : ∀ x : Str, x ≠ "__name__" → mb x = bootBuiltins x) (hlim : s₁.heap.NoLimit) (hg : s₁.gens = #[]) (ha : s₁.heap.get? a = some { cls := .type "list", data := .seq vs.toArray }) (hi : IntsAre vs ns) (hl : ns.length ≤ sizeLine) (hr : Room k callerA)
    (F : ∀ base : Heap, K.In base → base.Ns mainGlobals mg → FnG gd P w K mg base k fa fd [x] sp) (hbind : ∀ (s : Shared) (u : Value), BindsTo s fd ⟨[u], []⟩ [(x, u)])
    (hsp : ∀ H : Hp, Only H → SqL K H a (ns.map V.int) → sp [.ref a] H (fun v _ => v = .bl true) fun _ _ _ => False) (hCX : ∀ H e s', L2.CX P w [] H s₁ (fun _ _ _ => False) e s' → False) :
    codeAny (model P w) callerA (.call (.ref fa) ⟨[.ref a], []⟩) (fun r s' => r = .ok (.ret (.bool true)) ∧ OldK s₁.heap s'.heap ∧ s'.os = s₁.os ∧ AllBare s'.gens) s₁ := by
  have go : ∀ H : Hp, Only H → SqL K H a (ns.map V.int) → HOk P w H s₁.heap → (∀ b, H b ≠ none → b = a ∧ K.lookup a = none) → codeAny (model P w) callerA (.call (.ref fa) ⟨[.ref a], []⟩) (fun r s' => r = .ok (.ret (.bool true)) ∧ OldK s₁.heap s'.heap ∧ s'.os = s₁.os ∧ AllBare s'.gens) s₁ := by
    intro H hO hS hok hA
    have bs : ∀ {b : Addr} {o : Obj}, s₁.heap.get? b = some o → H b = none → (hidT s₁.heap H).get? b = some o := hidT_get
    have dn : ∀ {b : Addr} {o : Obj} {es : Array DictEntry} {ep : Nat}, s₁.heap.get? b = some o → o.data = .dict es ep → H b = none := by
      intro b o es ep e d
      by_cases q : H b = none
      · exact q
      · have := (hA b q).1
        subst this
        rw [ha] at e
        cases e
        exact nomatch d
    have nk : ∀ {b : Addr} {m : Str → Option Value}, s₁.heap.Ns b m → (hidT s₁.heap H).Ns b m := by
      rintro b m ⟨o, es, ep, e, d, r⟩
      exact ⟨o, es, ep, bs e (dn e d), d, r⟩
    have kb : K.In (hidT s₁.heap H) := by
      intro b o e
      refine bs (KX b o e) ?_
      by_cases q : H b = none
      · exact q
      · obtain ⟨rfl, z⟩ := hA b q
        rw [z] at e; cases e
    obtain ⟨mc, l1, l2⟩ := hlim
    have md : Mod K mg (hidT s₁.heap H) := ⟨kb, nk hns, ⟨mb, nk hb, hbb⟩, ⟨mc, nk l1, l2⟩⟩
    have e0 : Env0 P w K mg (hidT s₁.heap H) callerA [] s₁ H := { frames := rfl, mod := md, bs := fun b o e => of_hidT e, bsz := Nat.le_of_eq (hidT_size _ _), funs := trivial, frf := (fun b z => absurd (show b ∈ ([] : List Addr) from z) List.not_mem_nil), hok := hok, bare := .of_eq hg }
    refine codeAny_mono ((F _ kb (nk hns)).run callerA [] s₁ H ⟨[.ref a], []⟩ [.ref a] [.ref a] _ _ (Rm.caller hr) e0 (hbind s₁ (.ref a)) (.cons rfl .nil) (hsp H hO hS)) ?_
    rintro (e | fl) s' h
    · exact (hCX H e s' h).elim
    · cases fl with
      | ret u =>
        obtain ⟨v, H', os, bare, un, hok', r', q⟩ := h
        obtain rfl : v = .bl true := q
        obtain rfl : u = Value.bool true := r'
        refine ⟨rfl, OldK.of_keep fun b o e => ?_, os, bare⟩
        rcases hO b with z | ⟨ob, xs, z⟩
        · exact un.keep b o e z (fun y => absurd (show b ∈ ([] : List Addr) from y) List.not_mem_nil) (by simp)
        · have e1 := (hok b _ z).1
          have e2 := (hok' b _ (un.frzs b ob _ z)).1
          rw [e] at e1
          cases e1
          exact e2
      | _ => exact h.elim
  have rv := vals_ints hi
  cases hk : K.lookup a with
  | some o =>
    have e := KX a o hk
    rw [ha] at e
    cases e
    refine go (fun _ => none) (fun _ => .inl rfl) (.inr ⟨_, vs.toArray, _, hk, rfl, rfl, rfl, ?_, ?_⟩) (fun b u z => ?_) fun b z => absurd rfl z
    · rw [List.size_toArray, hi.length]; exact hl
    · simpa using rv
    · exact nomatch (show (none : Option HO) = some u from z)
  | none =>
    let o0 : Obj := { cls := .type "list", data := .seq vs.toArray }
    have h0 : ∀ b, (if b = a then some (HO.frz o0 (.lst (ns.map V.int))) else none) = none ∨ b = a := fun b => by
      by_cases q : b = a
      · exact .inr q
      · exact .inl (if_neg q)
    refine go (fun b => if b = a then some (.frz o0 (.lst (ns.map V.int))) else none) (fun b => ?_) (.inl (.inr ⟨o0, if_pos rfl⟩)) (fun b u z => ?_) fun b z => ⟨(h0 b).resolve_left z, hk⟩
    · rcases h0 b with q | rfl
      · exact .inl q
      · exact .inr ⟨_, _, if_pos rfl⟩
    · rcases h0 b with q | rfl
      · exact nomatch q.symm.trans z
      · have z' := (if_pos rfl).symm.trans z
        cases z'
        exact ⟨ha, by rw [List.length_map]; exact hl, vs, _, rv, ha⟩
end DS

set_option Elab.async false
set_option linter.all false
set_option maxRecDepth 100000
set_option maxHeartbeats 4000000
/-! DSI: comprehensions; defs and calls. -/
namespace DS
open PySem PySem.Spec PyProof.Rows L2

abbrev W0 : WX := fun _ _ _ _ => False
/-- targets that are names -/
inductive Tgt where
  | nm (i : Nat)
  | tp (is : List Nat)
def setAll : En → List Nat → List D → Option En
  | e, [], [] => some e
  | e, i :: is, x :: xs => setAll (e.set i (some x)) is xs
  | _, _, _ => none
def Tgt.put : Tgt → D → En → Option En
  | .nm i, d, e => some (e.set i (some d))
  | .tp is, .tup xs, e => setAll e is xs
  | _, _, _ => none
def rdTs : List Nat → L2.TGs
  | [] => L2.gNil
  | i :: is => L2.gCons (L2.gName i) (rdTs is)
def Tgt.rd (K : PySem.W.Frag) : Tgt → L2.TG
  | .nm i => L2.gName i
  | .tp is => L2.gTup K is.length (rdTs is)
def Tgt.sl : Tgt → List Nat
  | .nm i => [i]
  | .tp is => is
def R.nox {α : Type} : R α → R α
  | .exc _ _ => .bad
  | r => r
/-- one clause -/
def cpGo (it : Iter) (g : Tgt) (t : MT) (e : ME) (env : En) : Nat → Nat → List D → Hs → R (List D)
  | 0, i, acc, h => match it.get i h with
    | some none => .ok acc h
    | _ => .bad
  | k + 1, i, acc, h => match it.get i h with
    | some none => .ok acc h
    | some (some d) => match g.put d env with
      | some e1 => (t e1 h).nox.bind fun c h2 => if c = true then (gcR h2.length (e e1 h2)).nox.bind fun y h3 => if acc.length < sizeLine then cpGo it g t e env k (i + 1) (acc ++ [y]) h3 else .bad
        else cpGo it g t e env k (i + 1) acc h2
      | none => .bad
    | none => .bad
def eComp (vs : List Nat) (mi : MI) (g : Tgt) (t : MT) (e : ME) : ME := fun env h => (mi env h).bind fun it h1 =>
  (cpGo it g t e (wipeE env vs) (it.len h1) 0 [] h1).bind fun acc h2 => .ok (.ref h2.length) (h2 ++ [.lst acc])
def tTrue : MT := fun _ h => .ok true h
/-- two clauses: the inner one gathers into acc -/
def cpGo2 (it : Iter) (g : Tgt) (t : MT) (mi1 : MI) (g1 : Tgt) (t1 : MT) (vs1 : List Nat) (e : ME) (env : En) : Nat → Nat → List D → Hs → R (List D)
  | 0, i, acc, h => match it.get i h with
    | some none => .ok acc h
    | _ => .bad
  | k + 1, i, acc, h => match it.get i h with
    | some none => .ok acc h
    | some (some d) => match g.put d env with
      | some e1 => (t e1 h).nox.bind fun c h2 => if c = true then (mi1 e1 h2).nox.bind fun it1 h3 => (cpGo it1 g1 t1 e (wipeE e1 vs1) (it1.len h3) 0 acc h3).bind fun acc' h4 => cpGo2 it g t mi1 g1 t1 vs1 e env k (i + 1) acc' h4
        else cpGo2 it g t mi1 g1 t1 vs1 e env k (i + 1) acc h2
      | none => .bad
    | none => .bad
def eComp2 (vs : List Nat) (mi : MI) (g : Tgt) (t : MT) (mi1 : MI) (g1 : Tgt) (t1 : MT) (vs1 : List Nat) (e : ME) : ME := fun env h => (mi env h).bind fun it h1 =>
  (cpGo2 it g t mi1 g1 t1 vs1 e (wipeE env vs) (it.len h1) 0 [] h1).bind fun acc h2 => .ok (.ref h2.length) (h2 ++ [.lst acc])

section
variable {K : PySem.W.Frag} {cl : CW}
theorem wipe_set {sg : Sg} {i : Nat} {x : Option V} : ∀ {vs : List Nat}, i ∈ vs → wipe (sg.set i x) vs = wipe sg vs
  | [], h => by cases h
  | v :: vs, h => by
    unfold wipe
    by_cases hv : i ∈ vs
    · rw [wipe_set hv]
    · have e : i = v := (List.mem_cons.mp h).resolve_right hv
      subst e
      have comm : ∀ (vs : List Nat), i ∉ vs → wipe (sg.set i x) vs = (wipe sg vs).set i x := by
        intro vs
        induction vs with
        | nil => intro _; rfl
        | cons w ws ih =>
          intro hn
          have h1 : i ≠ w := fun z => hn (by simp [z])
          have h2 : i ∉ ws := fun z => hn (List.mem_cons_of_mem _ z)
          unfold wipe
          rw [ih h2, List.set_comm _ _ h1]
      rw [comm vs hv, List.set_set]
theorem wipe_idem {sg : Sg} : ∀ (vs us : List Nat), (∀ i ∈ us, i ∈ vs) → wipe (wipe sg us) vs = wipe sg vs
  | vs, [], _ => rfl
  | vs, u :: us, h => by
    show wipe ((wipe sg us).set u none) vs = _
    rw [wipe_set (h u List.mem_cons_self), wipe_idem vs us fun i hi => h i (List.mem_cons_of_mem _ hi)]
theorem er_wipe {H : Hp} {mu : List Addr} {env : En} {sg : Sg} (er : ER K H mu env sg) : ∀ vs : List Nat, ER K H mu (wipeE env vs) (wipe sg vs)
  | [] => er
  | v :: vs => by
    have ih := er_wipe er vs
    refine ⟨by rw [wipeE_len, wipe_length]; exact er.1, fun i d q => ?_⟩
    unfold wipeE at q
    unfold wipe
    by_cases hi : v = i
    · subst hi
      by_cases hv : v < (wipeE env vs).length
      · rw [List.getElem?_set_self hv] at q; cases q
      · rw [List.getElem?_eq_none (by simpa using hv)] at q; cases q
    · rw [List.getElem?_set_ne hi] at q ⊢
      exact ih.2 i d q
theorem rdTs_ok {H : Hp} {mu : List Addr} : ∀ {is : List Nat} {xs : List D} {ys : List V} {env env' : En} {sg : Sg} {vs : List Nat} {Q : Sg → Hp → Prop}, RpA K H mu xs ys → ER K H mu env sg → setAll env is xs = some env' → (∀ i ∈ is, i ∈ vs) →
    (∀ sg', ER K H mu env' sg' → wipe sg' vs = wipe sg vs → Q sg' H) → rdTs is ys sg H Q
  | [], [], _, env, env', sg, vs, Q, .nil, er, e, hv, hq => by cases e; exact ⟨rfl, hq sg er rfl⟩
  | [], x :: xs, _, env, env', sg, vs, Q, .cons a b, er, e, hv, hq => by cases e
  | i :: is, [], _, env, env', sg, vs, Q, .nil, er, e, hv, hq => by cases e
  | i :: is, x :: xs, y :: ys, env, env', sg, vs, Q, .cons a b, er, e, hv, hq => by
    refine ⟨y, ys, rfl, ?_⟩
    show rdTs is ys (sg.set i (some y)) H Q
    refine rdTs_ok b (er.set a) e (fun j hj => hv j (List.mem_cons_of_mem _ hj)) fun sg' er' hw => hq sg' er' ?_
    rw [hw, wipe_set (hv i List.mem_cons_self)]
theorem rdT_ok {H : Hp} {mu : List Addr} {g : Tgt} {d : D} {x : V} {env env' : En} {sg : Sg} {vs : List Nat} {Q : Sg → Hp → Prop} (r : Rp K H mu d x) (er : ER K H mu env sg) (e : g.put d env = some env') (hv : ∀ i ∈ g.sl, i ∈ vs)
    (hq : ∀ sg', ER K H mu env' sg' → wipe sg' vs = wipe sg vs → Q sg' H) : g.rd K x sg H Q := by
  cases g with
  | nm i => cases e; exact hq _ (er.set r) (wipe_set (hv i (by simp [Tgt.sl])))
  | tp is =>
    cases r with
    | @tup a xs ds s ra =>
      have hlen : ∀ {is : List Nat} {xs : List D} {env env' : En}, setAll env is xs = some env' → xs.length = is.length := by
        intro is
        induction is with
        | nil => intro xs env env' h; cases xs with | nil => rfl | cons _ _ => cases h
        | cons i is ih => intro xs env env' h; cases xs with | nil => cases h | cons x xs => simp only [List.length_cons]; rw [ih h]
      exact ⟨a, xs, rfl, s, by rw [← ra.length]; exact hlen e, rdTs_ok ra er e hv hq⟩
    | _ => cases e
/-- an object apart is changed -/
theorem Ext.side {H0 H : Hp} {mu0 mu : List Addr} {p : Addr} {o : HO} (e : Ext H0 mu0 H mu) (hp : H0 p = none) : Ext H0 mu0 (upd H p o) mu where
  frame := fun a u q n nt => by rw [upd_ne (ne_of_none q hp)]; exact e.frame a u q n nt
  tup := fun a u q => by rw [upd_ne (ne_of_none q hp)]; exact e.tup a u q
  frz := fun a u w q => by rw [upd_ne (ne_of_none q hp)]; exact e.frz a u w q
  pre := e.pre
  new := e.new
theorem Mo.side {H : Hp} {mu : List Addr} {p : Addr} {o : HO} {xs : List V} (hp : H p = some (.lst xs)) : Mo H mu (upd H p o) mu :=
  ⟨fun a ys e => by
    have : a ≠ p := fun z => by subst z; rw [hp] at e; cases e
    rw [upd_ne this]; exact e, fun a x w e => by
    have : a ≠ p := fun z => by subst z; rw [hp] at e; cases e; exact w
    rw [upd_ne this]; exact e, List.prefix_refl _⟩
theorem HR.side {H : Hp} {mu : List Addr} {h : Hs} {p : Addr} {o : HO} {xs : List V} (hp : H p = some (.lst xs)) (hm : p ∉ mu) (r : HR K H mu cl h) : HR K (upd H p o) mu cl h :=
  ⟨r.len, r.nd, fun n u a e1 e2 => (r.obj n u a e1 e2).mo (Mo.side hp) fun w q => by
    have : a ≠ p := fun z => by subst z; exact hm (List.mem_of_getElem? e2)
    rw [upd_ne this]; exact q, fun t ht => (r.tb t ht).keep (fun a u _ e te => by
    have : a ≠ p := fun z => by subst z; rw [hp] at e; cases e; exact te
    rw [upd_ne this]; exact e) fun _ _ n _ _ => n⟩
theorem Ext.notin {H0 H : Hp} {mu0 mu : List Addr} {p : Addr} {o : HO} (e : Ext H0 mu0 H mu) (h0 : H0 p = some o) (hm : p ∉ mu0) (nt : isTbl o = false := by rfl) : p ∉ mu ∧ H p = some o :=
  ⟨fun z => (by have := e.new p z hm o h0; rw [nt] at this; cases this), e.frame p o h0 hm nt⟩
theorem nox_ok {α : Type} {r : R α} {a : α} {h : Hs} (e : r.nox = .ok a h) : r = .ok a h := by
  cases r with
  | ok _ _ => exact e
  | exc _ _ => cases e
  | bad => cases e
theorem nox_cases {α : Type} (r : R α) : (∃ a h, r.nox = .ok a h) ∨ r.nox = .bad := by
  cases r with
  | ok a h => exact .inl ⟨a, h, rfl⟩
  | exc _ _ => exact .inr rfl
  | bad => exact .inr rfl
theorem gc_cases (n : Nat) {r : R D} {d : D} {h : Hs} (e : gcR n r = .ok d h) : ∃ d0 h0, r = .ok d0 h0 := by
  cases r with
  | ok d0 h0 => exact ⟨d0, h0, rfl⟩
  | exc _ _ => cases e
  | bad => cases e
end

section
variable {X : Cx} {cl : CW} {W : WX} {elt tg iter tg1 iter1 : Expr} {ifs ifs1 : List Expr} {scope : Scope} {own : List (Str × Nat)} {pos spos py : Pos} {mi mi1 : MI} {g g1 : Tgt} {mt mt1 : MT} {me : ME} {vs vs1 : List Nat}
abbrev STs (X : Cx) (cl : CW) (W : WX) (es : List Expr) (m : MT) : Prop := PTs X es (tT X.K cl W m)
theorem sts_nil : STs X cl W [] tTrue := ⟨fun pins s σ H Q I ⟨mu, env, h, rel, p⟩ => pts_nil.run pins s σ H Q I (p _ _ _ (Ext.refl _ _) rel.hr rfl)⟩
theorem sts_one {c : Expr} (h : ST X cl W c mt) : STs X cl W [c] mt := pts_one h
/-- the gathering loop, from any heap in which the list stands apart at L -/
theorem lc_go {J : It} {it : Iter} {L : Addr} {H0 H1 : Hp} {mu0 mu1 : List Addr} {sg : Sg} {env : En} {Fin : Hp → Prop} {Pf : List D → Hs → Prop} (hL : H0 L = none) (itok : ItOK X.K cl H1 mu1 it J) (hv : ∀ i ∈ g.sl, i ∈ vs)
    (er0 : ER X.K H1 mu1 env (wipe sg vs)) (hid : wipe (wipe sg vs) vs = wipe sg vs)
    (fin : ∀ H mu h acc av, Ext H0 mu0 H mu → L ∉ mu → H L = some (.lst av) → HR X.K H mu cl h → RpA X.K H mu acc av → Pf acc h → Fin H)
    (W' : Nat → Nat → Hp → Prop)
    (hW : ∀ i m H, W' i m H ↔ ∃ mu h acc av, Ext H0 mu0 H mu ∧ Mo H1 mu1 H mu ∧ L ∉ mu ∧ H L = some (.lst av) ∧ HR X.K H mu cl h ∧ RpA X.K H mu acc av ∧ (match cpGo it g mt me env m i acc h with | .ok acc' h' => Pf acc' h' | _ => False)) :
    ∀ i m H, W' i m H → (J.stop i H ∧ Fin H) ∨ (J.go i H ∧ ∃ Nx : Hp → Prop, (∀ H', Nx H' → ∃ m', m' < m ∧ W' (i + 1) m' H') ∧ ∀ x H', J.yld i H x H' → g.rd X.K x (wipe sg vs) H' fun σ2 H2 => wipe σ2 vs = wipe sg vs ∧ tT X.K cl W0 mt σ2 H2 fun b H3 =>
      if b = true then tE X.K cl W0 me σ2 H3 fun y H4 => ∃ acc, H4 L = some (.lst acc) ∧ acc.length < sizeLine ∧ Nx (upd H4 L (.lst (acc ++ [y]))) else Nx H3) := by
  intro i m H hw
  obtain ⟨mu, h, acc, av, e, em, nL, hl, hr, ra, p⟩ := (hW i m H).mp hw
  obtain ⟨ok1, ok2⟩ := itok H mu h i em hr
  cases q : it.get i h with
  | none => cases m <;> (unfold cpGo at p; rw [q] at p; exact p.elim)
  | some r =>
    cases r with
    | none =>
      refine .inl ⟨ok2 q, ?_⟩
      have p' : Pf acc h := by cases m <;> (unfold cpGo at p; rw [q] at p; exact p)
      exact fin H mu h acc av e nL hl hr ra p'
    | some d =>
      cases m with
      | zero => unfold cpGo at p; rw [q] at p; exact p.elim
      | succ k =>
        unfold cpGo at p
        rw [q] at p
        simp only at p
        obtain ⟨go, yl⟩ := ok1 d q
        refine .inr ⟨go, fun H => W' (i + 1) k H, fun H' hN => ⟨k, Nat.lt_succ_self k, hN⟩, fun x H3 y => ?_⟩
        obtain ⟨e3, hr3, rx⟩ := yl x H3 y
        obtain ⟨nL3, hl3⟩ := e3.notin hl nL
        cases q1 : g.put d env with
        | none => rw [q1] at p; exact p.elim
        | some e4 =>
          rw [q1] at p
          simp only at p
          refine rdT_ok rx (er0.mo (em.trans e3.mo)) q1 hv fun sg2 er2 hw2 => ⟨hw2.trans hid, mu, e4, h, ⟨hr3, er2⟩, ?_⟩
          rcases nox_cases (mt e4 h) with ⟨c, h2, q2⟩ | q2
          · rw [q2] at p
            simp only [bind_ok] at p
            rw [nox_ok q2]
            intro b H4 mu4 e4' hr4 rb
            cases rb
            obtain ⟨nL4, hl4⟩ := e4'.notin hl3 nL3
            have er4 := er2.mono e4'
            cases c with
            | false =>
              simp only [Bool.false_eq_true, if_false] at p ⊢
              exact (hW _ _ _).mpr ⟨mu4, h2, acc, av, e.trans (e3.trans e4'), em.trans (e3.trans e4').mo, nL4, hl4, hr4, (ra.mono e3).mono e4', p⟩
            | true =>
              simp only [if_true] at p ⊢
              refine ⟨mu4, e4, h2, ⟨hr4, er4⟩, ?_⟩
              rcases nox_cases (gcR h2.length (me e4 h2)) with ⟨y2, h3, q3⟩ | q3
              · rw [q3] at p
                simp only [bind_ok] at p
                have q3' := nox_ok q3
                obtain ⟨d0, h0, q0⟩ := gc_cases _ q3'
                rw [q0] at q3' ⊢
                intro v5 H5 mu5 e5 hr5 r5
                obtain ⟨mu6, e6, hr6, r6⟩ := gc_ok e5 hr4.len hr5 r5 q3'
                obtain ⟨nL6, hl6⟩ := e6.notin hl4 nL4
                by_cases hz : acc.length < sizeLine
                · rw [if_pos hz] at p
                  refine ⟨av, hl6, by rw [← ra.length]; exact hz, (hW _ _ _).mpr ⟨mu6, h3, acc ++ [y2], av ++ [v5], (e.trans (e3.trans (e4'.trans e6))).side hL, (em.trans (e3.trans (e4'.trans e6)).mo).trans (Mo.side hl6), nL6, upd_same, hr6.side hl6 nL6, ?_, p⟩⟩
                  exact ((((ra.mono e3).mono e4').mono e6).append (.one r6)).mo (Mo.side hl6)
                · rw [if_neg hz] at p; exact p.elim
              · rw [q3] at p; exact p.elim
          · rw [q2] at p; exact p.elim
theorem cpGo_noexc {it : Iter} {env : En} : ∀ (k i : Nat) (acc : List D) (h : Hs) (x : Ex) (h' : Hs), cpGo it g mt me env k i acc h ≠ .exc x h' := by
  intro k
  induction k with
  | zero => intro i acc h x h' z; unfold cpGo at z; split at z <;> cases z
  | succ k ih =>
    intro i acc h x h' z
    unfold cpGo at z
    split at z
    · cases z
    · split at z
      · rename_i e1 _
        rcases nox_cases (mt e1 h) with ⟨c, h2, q2⟩ | q2
        · rw [q2] at z
          simp only [bind_ok] at z
          split at z
          · rcases nox_cases (gcR h2.length (me e1 h2)) with ⟨y2, h3, q3⟩ | q3
            · rw [q3] at z
              simp only [bind_ok] at z
              split at z
              · exact ih _ _ _ _ _ z
              · cases z
            · rw [q3] at z; cases z
          · exact ih _ _ _ _ _ z
        · rw [q2] at z; cases z
      · cases z
    · cases z
theorem comp_fin {sg : Sg} {H1 : Hp} {mu1 : List Addr} {Q : VK} {L : Addr} (hL : H1 L = none) {H : Hp} {mu : List Addr} {h : Hs} {acc : List D} {av : List V} (e' : Ext H1 mu1 H mu) (nL' : L ∉ mu) (hl' : H L = some (.lst av)) (hr' : HR X.K H mu cl h) (ra' : RpA X.K H mu acc av)
    (pf : Post (Rp X.K) X.K cl W sg H1 mu1 (.ok (.ref h.length) (h ++ [.lst acc])) Q) : Q (.ref L) H := by
  have hu : upd H L (.lst av) = H := by
    funext a
    unfold upd
    split
    · rename_i z; rw [z]; exact hl'.symm
    · rfl
  have hj := hr'.joined (p := L) (o := .lst av) (u := .lst acc) nL' (fun _ z => by rw [hl'] at z; cases z) (fun _ st z => by rw [hl'] at z; cases z; exact st) ⟨av, upd_same, ra'.mo ⟨fun a ys e => by rw [hu]; exact e, fun a x w e => by rw [hu]; exact e, List.prefix_append _ _⟩⟩
  rw [hu] at hj
  have E := e'.joined (p := L) (o := .lst av) hL
  rw [hu] at E
  refine pf _ _ _ E hj (.ref ?_)
  rw [← hr'.len]; simp
theorem comp_ok (hv : ∀ i ∈ g.sl, i ∈ vs) : ∀ (sg : Sg) (H : Hp) (Q : VK), tE X.K cl W (eComp vs mi g mt me) sg H Q → tLc (tI X.K cl W mi) (g.rd X.K) (tT X.K cl W0 mt) (tE X.K cl W0 me) vs sg H Q :=
  fun sg H Q ⟨mu, env, h, rel, p⟩ => ⟨mu, env, h, rel, (Post.bind (rl := ItOK X.K cl) p).mono fun J H1 ⟨mu1, it, h1, e, hr, itok, p1⟩ => by
    intro L hL
    have nL : L ∉ mu1 := hr.fresh hL
    refine ⟨fun i m H => ∃ mu h acc av, Ext H1 mu1 H mu ∧ Mo H1 mu1 H mu ∧ L ∉ mu ∧ H L = some (.lst av) ∧ HR X.K H mu cl h ∧ RpA X.K H mu acc av ∧ (match cpGo it g mt me (wipeE env vs) m i acc h with | .ok acc' h' => Post (Rp X.K) X.K cl W sg H1 mu1 (.ok (.ref h'.length) (h' ++ [.lst acc'])) Q | _ => False),
      ⟨it.len h1, mu1, h1, [], [], Ext.tupled hL, (Ext.tupled hL).mo, nL, upd_same, hr.tupled hL, .nil, ?_⟩, ?_⟩
    · cases q : cpGo it g mt me (wipeE env vs) (it.len h1) 0 [] h1 with
      | ok acc h2 => rw [q] at p1; exact p1
      | exc x h2 => exact (cpGo_noexc _ _ _ _ _ _ q).elim
      | bad => rw [q] at p1; exact p1
    · exact lc_go (Pf := fun acc' h' => Post (Rp X.K) X.K cl W sg H1 mu1 (.ok (.ref h'.length) (h' ++ [.lst acc'])) Q) (env := wipeE env vs) hL itok hv (er_wipe (rel.er.mono e) vs) (wipe_idem vs vs fun _ h => h) (fun H mu h acc av e' nL' hl' hr' ra' pf => comp_fin hL e' nL' hl' hr' ra' pf) _ fun i m H => Iff.rfl⟩
theorem cpGo2_noexc {it : Iter} {env : En} : ∀ (k i : Nat) (acc : List D) (h : Hs) (x : Ex) (h' : Hs), cpGo2 it g mt mi1 g1 mt1 vs1 me env k i acc h ≠ .exc x h' := by
  intro k
  induction k with
  | zero => intro i acc h x h' z; unfold cpGo2 at z; split at z <;> cases z
  | succ k ih =>
    intro i acc h x h' z
    unfold cpGo2 at z
    split at z
    · cases z
    · split at z
      · rename_i e1 _
        rcases nox_cases (mt e1 h) with ⟨c, h2, q2⟩ | q2
        · rw [q2] at z
          simp only [bind_ok] at z
          split at z
          · rcases nox_cases (mi1 e1 h2) with ⟨it1, h3, q3⟩ | q3
            · rw [q3] at z
              simp only [bind_ok] at z
              cases q4 : cpGo it1 g1 mt1 me (wipeE e1 vs1) (it1.len h3) 0 acc h3 with
              | ok acc' h4 => rw [q4] at z; exact ih _ _ _ _ _ z
              | exc x4 h4 => exact cpGo_noexc _ _ _ _ _ _ q4
              | bad => rw [q4] at z; cases z
            · rw [q3] at z; cases z
          · exact ih _ _ _ _ _ z
        · rw [q2] at z; cases z
      · cases z
    · cases z
theorem comp2_ok (hv : ∀ i ∈ g.sl, i ∈ vs) (hv1 : ∀ i ∈ g1.sl, i ∈ vs1) (hvv : ∀ i ∈ vs1, i ∈ vs) : ∀ (sg : Sg) (H : Hp) (Q : VK), tE X.K cl W (eComp2 vs mi g mt mi1 g1 mt1 vs1 me) sg H Q →
    tLc2 (tI X.K cl W mi) (g.rd X.K) (tT X.K cl W0 mt) (tI X.K cl W0 mi1) (g1.rd X.K) (tT X.K cl W0 mt1) (tE X.K cl W0 me) vs vs1 sg H Q :=
  fun sg H Q ⟨mu, env, h, rel, p⟩ => ⟨mu, env, h, rel, (Post.bind (rl := ItOK X.K cl) p).mono fun J H1 ⟨mu1, it, h1, e, hr, itok, p1⟩ => by
    intro L hL
    have nL : L ∉ mu1 := hr.fresh hL
    refine ⟨fun i m H => ∃ mu h acc av, Ext H1 mu1 H mu ∧ L ∉ mu ∧ H L = some (.lst av) ∧ HR X.K H mu cl h ∧ RpA X.K H mu acc av ∧ (match cpGo2 it g mt mi1 g1 mt1 vs1 me (wipeE env vs) m i acc h with | .ok acc' h' => Post (Rp X.K) X.K cl W sg H1 mu1 (.ok (.ref h'.length) (h' ++ [.lst acc'])) Q | _ => False),
      ⟨it.len h1, mu1, h1, [], [], Ext.tupled hL, nL, upd_same, hr.tupled hL, .nil, ?_⟩, ?_⟩
    · cases q : cpGo2 it g mt mi1 g1 mt1 vs1 me (wipeE env vs) (it.len h1) 0 [] h1 with
      | ok acc h2 => rw [q] at p1; exact p1
      | exc x h2 => exact (cpGo2_noexc _ _ _ _ _ _ q).elim
      | bad => rw [q] at p1; exact p1
    · rintro i m H ⟨mu, h, acc, av, e, nL, hl, hr, ra, p⟩
      obtain ⟨ok1, ok2⟩ := itok H mu h i e.mo hr
      cases q : it.get i h with
      | none => cases m <;> (unfold cpGo2 at p; rw [q] at p; exact p.elim)
      | some r =>
        cases r with
        | none =>
          refine .inl ⟨ok2 q, ?_⟩
          have p' : Post (Rp X.K) X.K cl W sg H1 mu1 (.ok (.ref h.length) (h ++ [.lst acc])) Q := by cases m <;> (unfold cpGo2 at p; rw [q] at p; exact p)
          exact comp_fin hL e nL hl hr ra p'
        | some d =>
          cases m with
          | zero => unfold cpGo2 at p; rw [q] at p; exact p.elim
          | succ k =>
            unfold cpGo2 at p
            rw [q] at p
            simp only at p
            obtain ⟨go, yl⟩ := ok1 d q
            refine .inr ⟨go, fun H => ∃ mu h acc av, Ext H1 mu1 H mu ∧ L ∉ mu ∧ H L = some (.lst av) ∧ HR X.K H mu cl h ∧ RpA X.K H mu acc av ∧ (match cpGo2 it g mt mi1 g1 mt1 vs1 me (wipeE env vs) k (i + 1) acc h with | .ok acc' h' => Post (Rp X.K) X.K cl W sg H1 mu1 (.ok (.ref h'.length) (h' ++ [.lst acc'])) Q | _ => False), fun H' hN => ⟨k, Nat.lt_succ_self k, hN⟩, fun x H3 y => ?_⟩
            obtain ⟨e3, hr3, rx⟩ := yl x H3 y
            obtain ⟨nL3, hl3⟩ := e3.notin hl nL
            cases q1 : g.put d (wipeE env vs) with
            | none => rw [q1] at p; exact p.elim
            | some e4 =>
              rw [q1] at p
              simp only at p
              refine rdT_ok rx ((er_wipe (rel.er.mono ‹Ext _ _ H1 mu1›) vs).mono (e.trans e3)) q1 hv fun sg2 er2 hw2 => ⟨hw2.trans (wipe_idem vs vs fun _ h => h), mu, e4, h, ⟨hr3, er2⟩, ?_⟩
              rcases nox_cases (mt e4 h) with ⟨c, h2, q2⟩ | q2
              · rw [q2] at p
                simp only [bind_ok] at p
                rw [nox_ok q2]
                intro b H4 mu4 e4' hr4 rb
                cases rb
                obtain ⟨nL4, hl4⟩ := e4'.notin hl3 nL3
                have er4 := er2.mono e4'
                have E4 := e.trans (e3.trans e4')
                cases c with
                | false =>
                  simp only [Bool.false_eq_true, if_false] at p ⊢
                  exact ⟨mu4, h2, acc, av, E4, nL4, hl4, hr4, (ra.mono e3).mono e4', p⟩
                | true =>
                  simp only [if_true] at p ⊢
                  refine ⟨mu4, e4, h2, ⟨hr4, er4⟩, ?_⟩
                  rcases nox_cases (mi1 e4 h2) with ⟨it1, h3, q3⟩ | q3
                  · rw [q3] at p
                    simp only [bind_ok] at p
                    rw [nox_ok q3]
                    intro J1 H5 mu5 e5 hr5 itok1
                    obtain ⟨nL5, hl5⟩ := e5.notin hl4 nL4
                    have E5 := E4.trans e5
                    refine ⟨fun j m H => ∃ mu h acc av, Ext H1 mu1 H mu ∧ Mo H5 mu5 H mu ∧ L ∉ mu ∧ H L = some (.lst av) ∧ HR X.K H mu cl h ∧ RpA X.K H mu acc av ∧ (match cpGo it1 g1 mt1 me (wipeE e4 vs1) m j acc h with | .ok acc' h' => (match cpGo2 it g mt mi1 g1 mt1 vs1 me (wipeE env vs) k (i + 1) acc' h' with | .ok acc' h' => Post (Rp X.K) X.K cl W sg H1 mu1 (.ok (.ref h'.length) (h' ++ [.lst acc'])) Q | _ => False) | _ => False),
                      ⟨it1.len h3, mu5, h3, acc, av, E5, Mo.refl _ _, nL5, hl5, hr5, ((ra.mono e3).mono e4').mono e5, ?_⟩, ?_⟩
                    · cases q4 : cpGo it1 g1 mt1 me (wipeE e4 vs1) (it1.len h3) 0 acc h3 with
                      | ok acc' h4 => rw [q4] at p; exact p
                      | exc x4 h4 => exact (cpGo_noexc _ _ _ _ _ _ q4).elim
                      | bad => rw [q4] at p; exact p
                    · exact lc_go (Pf := fun acc' h' => match cpGo2 it g mt mi1 g1 mt1 vs1 me (wipeE env vs) k (i + 1) acc' h' with | .ok acc' h' => Post (Rp X.K) X.K cl W sg H1 mu1 (.ok (.ref h'.length) (h' ++ [.lst acc'])) Q | _ => False) (env := wipeE e4 vs1) hL itok1 hv1 (er_wipe (er4.mono e5) vs1) (wipe_idem vs1 vs1 fun _ h => h)
                        (fun H mu h acc av e' nL' hl' hr' ra' pf => ⟨mu, h, acc, av, e', nL', hl', hr', ra', pf⟩) _ fun i m H => Iff.rfl
                  · rw [q3] at p; exact p.elim
              · rw [q2] at p; exact p.elim⟩
theorem se_comp (hc : X.calm = true) (hN : X.N.Nodup) (hi : SI X cl W tg iter mi) (ok : BlkOk X.N X.env.scope scope own)
    (hg : ∀ (s : Shared) (H : Hp) (C : Addr) (cs : List (Str × Addr)) (fp : List Addr), PG (X.blk s H scope (compEnvC scope cs C X.env) fp) tg (g.rd X.K))
    (ht : ∀ (s : Shared) (H : Hp) (C : Addr) (cs : List (Str × Addr)) (fp : List Addr), STs (X.blk s H scope (compEnvC scope cs C X.env) fp) cl W0 ifs mt)
    (he : ∀ (s : Shared) (H : Hp) (C : Addr) (cs : List (Str × Addr)) (fp : List Addr), SE (X.blk s H scope (compEnvC scope cs C X.env) fp) cl W0 elt me) (hs : ∀ x, foldedSetIterable iter X.env x = pure x := by intro _; rfl)
    (hv : ∀ i ∈ g.sl, i ∈ own.map (·.2) := by decide) :
    SE X cl W (.ListComp elt [⟨tg, iter, ifs, 0⟩] scope pos) (eComp (own.map (·.2)) mi g mt me) := PE.imp (pe_lc hc hN hi ok hg ht he hs) (comp_ok hv)
theorem ss_setComp {k : Nat} {y : Str} (hc : X.calm = true) (hN : X.N.Nodup) (hy : X.N[k]? = some y) (hyl : X.env.scope.names.lookup y = some .local)
    (hsw : swapsWith (.ListComp elt [⟨tg, iter, ifs, 0⟩] scope pos) (some (.Name y py)) spos.line X.env = pure true) (hi : SI X cl W tg iter mi) (ok : BlkOk X.N X.env.scope scope own)
    (hg : ∀ (s : Shared) (H : Hp) (C : Addr) (cs : List (Str × Addr)) (fp : List Addr), PG (X.blk s H scope (compEnvC scope cs C X.env) fp) tg (g.rd X.K))
    (ht : ∀ (s : Shared) (H : Hp) (C : Addr) (cs : List (Str × Addr)) (fp : List Addr), STs (X.blk s H scope (compEnvC scope cs C X.env) fp) cl W0 ifs mt)
    (he : ∀ (s : Shared) (H : Hp) (C : Addr) (cs : List (Str × Addr)) (fp : List Addr), SE (X.blk s H scope (compEnvC scope cs C X.env) fp) cl W0 elt me) (hs : ∀ x, foldedSetIterable iter X.env x = pure x := by intro _; rfl)
    (hv : ∀ i ∈ g.sl, i ∈ own.map (·.2) := by decide) :
    SS X cl W (.Assign [.Name y py] (.ListComp elt [⟨tg, iter, ifs, 0⟩] scope pos) spos) (sSet k (eComp (own.map (·.2)) mi g mt me)) :=
  PS.imp (ps_setLc hc hN hy hyl hsw hi ok hg ht he hs) fun D sg H ⟨mu, env, h, rel, p⟩ => comp_ok hv sg H _ ⟨mu, env, h, rel, (PostS.of rel.er p).mono fun b H1 ⟨mu1, d, h1, e, hr, rb, p1⟩ => p1 _ _ _ (Ext.refl _ _) hr ((rel.er.mono e).set rb)⟩
theorem se_comp2 (hc : X.calm = true) (hN : X.N.Nodup) (hi : SI X cl W tg iter mi) (ok : BlkOk X.N X.env.scope scope own) (vs1 : List Nat) (hvv : ∀ i ∈ vs1, i ∈ own.map (·.2))
    (hg : ∀ (s : Shared) (H : Hp) (C : Addr) (cs : List (Str × Addr)) (fp : List Addr), PG (X.blk s H scope (compEnvC scope cs C X.env) fp) tg (g.rd X.K))
    (ht : ∀ (s : Shared) (H : Hp) (C : Addr) (cs : List (Str × Addr)) (fp : List Addr), STs (X.blk s H scope (compEnvC scope cs C X.env) fp) cl W0 ifs mt)
    (hi1 : ∀ (s : Shared) (H : Hp) (C : Addr) (cs : List (Str × Addr)) (fp : List Addr), SI (X.blk s H scope (compEnvC scope cs C X.env) fp) cl W0 tg1 iter1 mi1)
    (hg1 : ∀ (s : Shared) (H : Hp) (C : Addr) (cs : List (Str × Addr)) (fp : List Addr), PG (X.blk s H scope (compEnvC scope cs C X.env) fp) tg1 (g1.rd X.K))
    (ht1 : ∀ (s : Shared) (H : Hp) (C : Addr) (cs : List (Str × Addr)) (fp : List Addr), STs (X.blk s H scope (compEnvC scope cs C X.env) fp) cl W0 ifs1 mt1)
    (he : ∀ (s : Shared) (H : Hp) (C : Addr) (cs : List (Str × Addr)) (fp : List Addr), SE (X.blk s H scope (compEnvC scope cs C X.env) fp) cl W0 elt me) (hs : ∀ x, foldedSetIterable iter X.env x = pure x := by intro _; rfl) (hs1 : ∀ env x, foldedSetIterable iter1 env x = pure x := by intro _ _; rfl)
    (hv : ∀ i ∈ g.sl, i ∈ own.map (·.2) := by decide) (hv1 : ∀ i ∈ g1.sl, i ∈ vs1 := by decide) :
    SE X cl W (.ListComp elt [⟨tg, iter, ifs, 0⟩, ⟨tg1, iter1, ifs1, 0⟩] scope pos) (eComp2 (own.map (·.2)) mi g mt mi1 g1 mt1 vs1 me) := PE.imp (pe_lc2 hc hN hi ok hvv hg ht hi1 hg1 ht1 he hs hs1) (comp2_ok hv hv1 hvv)
theorem ss_setComp2 {k : Nat} {y : Str} (hc : X.calm = true) (hN : X.N.Nodup) (hy : X.N[k]? = some y) (hyl : X.env.scope.names.lookup y = some .local)
    (hsw : swapsWith (.ListComp elt [⟨tg, iter, ifs, 0⟩, ⟨tg1, iter1, ifs1, 0⟩] scope pos) (some (.Name y py)) spos.line X.env = pure true) (hi : SI X cl W tg iter mi) (ok : BlkOk X.N X.env.scope scope own) (vs1 : List Nat) (hvv : ∀ i ∈ vs1, i ∈ own.map (·.2))
    (hg : ∀ (s : Shared) (H : Hp) (C : Addr) (cs : List (Str × Addr)) (fp : List Addr), PG (X.blk s H scope (compEnvC scope cs C X.env) fp) tg (g.rd X.K))
    (ht : ∀ (s : Shared) (H : Hp) (C : Addr) (cs : List (Str × Addr)) (fp : List Addr), STs (X.blk s H scope (compEnvC scope cs C X.env) fp) cl W0 ifs mt)
    (hi1 : ∀ (s : Shared) (H : Hp) (C : Addr) (cs : List (Str × Addr)) (fp : List Addr), SI (X.blk s H scope (compEnvC scope cs C X.env) fp) cl W0 tg1 iter1 mi1)
    (hg1 : ∀ (s : Shared) (H : Hp) (C : Addr) (cs : List (Str × Addr)) (fp : List Addr), PG (X.blk s H scope (compEnvC scope cs C X.env) fp) tg1 (g1.rd X.K))
    (ht1 : ∀ (s : Shared) (H : Hp) (C : Addr) (cs : List (Str × Addr)) (fp : List Addr), STs (X.blk s H scope (compEnvC scope cs C X.env) fp) cl W0 ifs1 mt1)
    (he : ∀ (s : Shared) (H : Hp) (C : Addr) (cs : List (Str × Addr)) (fp : List Addr), SE (X.blk s H scope (compEnvC scope cs C X.env) fp) cl W0 elt me) (hs : ∀ x, foldedSetIterable iter X.env x = pure x := by intro _; rfl) (hs1 : ∀ env x, foldedSetIterable iter1 env x = pure x := by intro _ _; rfl)
    (hv : ∀ i ∈ g.sl, i ∈ own.map (·.2) := by decide) (hv1 : ∀ i ∈ g1.sl, i ∈ vs1 := by decide) :
    SS X cl W (.Assign [.Name y py] (.ListComp elt [⟨tg, iter, ifs, 0⟩, ⟨tg1, iter1, ifs1, 0⟩] scope pos) spos) (sSet k (eComp2 (own.map (·.2)) mi g mt mi1 g1 mt1 vs1 me)) :=
  PS.imp (ps_setLc2 hc hN hy hyl hsw hi ok hvv hg ht hi1 hg1 ht1 he hs hs1) fun D sg H ⟨mu, env, h, rel, p⟩ => comp2_ok hv hv1 hvv sg H _ ⟨mu, env, h, rel, (PostS.of rel.er p).mono fun b H1 ⟨mu1, d, h1, e, hr, rb, p1⟩ => p1 _ _ _ (Ext.refl _ _) hr ((rel.er.mono e).set rb)⟩
end

/-! ### defs and calls -/
def startE (n : Nat) (ds : List D) : En := ds.map some ++ List.replicate (n - ds.length) none
def outR : RS → R D
  | .nx _ h => .ok .non h
  | .ret d h => .ok d h
  | .exc x _ h => .exc x h
  | _ => .bad
abbrev MF := List D → Hs → R D
def mFn (n : Nat) (body : MS) : MF := fun ds h => gcR h.length (outR (body (startE n ds) h))
/-- so many arguments -/
def guard (n : Nat) (f : MF) : MF := fun ds h => if ds.length = n then f ds h else .bad
def eCall (n : Nat) (f : MF) (a : MA) : ME := fun env h => (a env h).bind fun ds h1 => guard n f ds h1
def spM (K : PySem.W.Frag) (cl : CW) (n : Nat) (f : MF) : Sp := fun vs H Q E => ∃ mu ds h, HR K H mu cl h ∧ RpA K H mu ds vs ∧ Post (Rp K) K cl (fun c dd _ H' => E c dd H') [] H mu (guard n f ds h) Q
theorem spM.len {K : PySem.W.Frag} {cl : CW} {n : Nat} {f : MF} {vs : List V} {H : Hp} {Q : VK} {E : XK} (h : spM K cl n f vs H Q E) : vs.length = n := by
  obtain ⟨mu, ds, h, hR, ra, p⟩ := h
  unfold guard at p
  by_cases hl : ds.length = n
  · rw [← ra.length]; exact hl
  · rw [if_neg hl] at p; exact p.elim
theorem guard_ok {n : Nat} {f : MF} {ds : List D} {h : Hs} {K : PySem.W.Frag} {cl : CW} {W : WX} {sg : Sg} {H : Hp} {mu : List Addr} {Q : VK} (p : Post (Rp K) K cl W sg H mu (guard n f ds h) Q) : Post (Rp K) K cl W sg H mu (f ds h) Q := by
  unfold guard at p
  by_cases hl : ds.length = n
  · rw [if_pos hl] at p; exact p
  · rw [if_neg hl] at p; exact p.elim
theorem gcR_noexc (n : Nat) (d : D) (h : Hs) (x : Ex) (h' : Hs) : gcR n (.ok d h) ≠ .exc x h' := by
  intro z
  unfold gcR at z
  simp only at z
  split at z
  · split at z
    · cases z
    · split at z
      · split at z
        · split at z <;> cases z
        · cases z
      · cases z
  · cases z
/-- a def of the module, by its meaning -/
def FnS (gd : Bool) (P : Program) (w : World) (K : PySem.W.Frag) (mg : Str → Option Value) (base : Heap) (cl : CW) (k : Nat) (x : Str) (n : Nat) (mf : MF) : Prop :=
  ∃ f fd ps, FnG gd P w K mg base k f fd ps (spM K cl n mf) ∧ mg x = some (.ref f) ∧ PySem.W.keepIn K (.ref f) = true ∧ Binds K fd ps []
theorem er_start {K : PySem.W.Frag} {H : Hp} {mu : List Addr} {N : List Str} {ds : List D} {vs : List V} (r : RpA K H mu ds vs) : ER K H mu (startE N.length ds) (L2.start N vs) := by
  refine ⟨by simp [startE, L2.start, r.length], fun i d q => ?_⟩
  unfold startE at q
  have hi : i < ds.length := by
    by_cases hi : i < ds.length
    · exact hi
    · rw [List.getElem?_append_right (by simpa using hi), List.getElem?_replicate] at q
      split at q <;> cases q
  rw [List.getElem?_append_left (by simpa using hi), List.getElem?_map] at q
  cases q2 : ds[i]? with
  | none => rw [q2] at q; cases q
  | some d' =>
    rw [q2] at q
    cases q
    obtain ⟨v, hv, rv⟩ := r.get q2
    refine ⟨v, ?_, rv⟩
    unfold L2.start
    rw [List.getElem?_append_left (by rw [List.length_map, ← r.length]; exact hi), List.getElem?_map, hv]
    rfl
section
variable {P : Program} {w : World} {K : PySem.W.Frag} {mg : Str → Option Value} {base : Heap} {cl : CW}
theorem fn_ok {x qual : Str} {st : Stmt} {f : Addr} {fd : FuncData} {N ps : List Str} {k : Nat} {m : MS} (F : Fun K x qual st f fd) (S : FnScope N ps (defScope st))
    (hbody : ∀ (cdv : Value) (A : Around) (outer : List Env) (s : Shared) (H : Hp) (E : XK), Rm gd k (A.deeper (envOfC qual (defScope st) s.heap.objs.size f cdv)) →
      SB (cxOf (L2.CX P w) P w K mg base N qual (defScope st) f cdv A outer s H E) cl (fun c d _ H' => E c d H') (defBody st) m) :
    FnG gd P w K mg base (k + 1) f fd ps (spM K cl ps.length (mFn N.length m)) := by
  refine FnG.of F S (fun vs H Q E h => h.len) fun cdv A outer s H vs Q E hr ⟨mu, ds, h, hR, ra, p⟩ => ⟨_, hbody cdv A outer s H E hr, ?_⟩
  have p := guard_ok p
  refine ⟨mu, startE N.length ds, h, ⟨hR, er_start ra⟩, ?_⟩
  unfold mFn at p
  cases q : m (startE N.length ds) h with
  | nx e' h' =>
    rw [q] at p
    intro sg H' mu' e hr' er'
    cases q2 : gcR h.length (outR (.nx e' h')) with
    | ok d' h'' =>
      rw [q2] at p
      obtain ⟨mu2, e2, hr2, r2⟩ := gc_ok e hR.len hr' .non q2
      exact p _ _ _ e2 hr2 r2
    | exc x h'' => exact (gcR_noexc _ _ _ _ _ q2).elim
    | bad => rw [q2] at p; exact p.elim
  | ret d h' =>
    rw [q] at p
    intro v H' mu' e hr' rv
    cases q2 : gcR h.length (outR (.ret d h')) with
    | ok d' h'' =>
      rw [q2] at p
      obtain ⟨mu2, e2, hr2, r2⟩ := gc_ok e hR.len hr' rv q2
      exact p _ _ _ e2 hr2 r2
    | exc x h'' => exact (gcR_noexc _ _ _ _ _ q2).elim
    | bad => rw [q2] at p; exact p.elim
  | bk e' h' => rw [q] at p; exact p.elim
  | ct e' h' => rw [q] at p; exact p.elim
  | exc x e' h' => rw [q] at p; exact fun c dd sg H' mu' e hr' er' hx => p c dd H' mu' e hr' hx
  | bad => rw [q] at p; exact p
end
section
variable {X : Cx} {cl : CW} {W : WX} {a b c e o i : Expr} {es : List Expr} {ms : MA} {pos p : Pos} {x : Str} {mf : MF} {k n : Nat}
theorem se_call (F : FnS gd X.prog X.w X.K X.mg X.base cl k x n mf) (hr : Rm gd k X.A) (tk : Takes X W) (ha : SA X cl W (e :: es) ms) (hg : Gl X x := by rfl)
    (hdb : (x == ("__debug__" : Str)) = false := by decide) (he : starEach (e :: es) X.env = (false, eval e X.env) :: starEach es X.env := by rfl) (hpl : (backTo pos (starEach es X.env)).any (·.1) = false := by rfl) :
    SE X cl W (.Call (.Name x p) (e :: es) [] pos) (eCall n mf ms) := by
  obtain ⟨f, fd, ps, F, hm, hk, hb⟩ := F
  constructor
  intro pins s σ H Q I ⟨mu, env, h, rel, p⟩
  refine wpAny_Call_Name_kw (ld_glob I hg hm ?_ hdb)
  refine PySem.W.callWith_K (h₀ := X.base) I.ok.mod.kin hk (thn (ha.run pos pins s σ H _ I ⟨mu, env, h, rel, Post.bind p⟩) ?_) he hpl
  rintro us s1 ⟨vs, H1, I1, r1, mu1, ds, h1, e1, hr1, rb1, p1⟩
  exact ⟨I1.kIn, runG F hr hb tk I1 r1 ⟨mu1, ds, h1, hr1, rb1, p1⟩⟩
theorem se_call0 (F : FnS gd X.prog X.w X.K X.mg X.base cl k x n mf) (hr : Rm gd k X.A) (tk : Takes X W) (hg : Gl X x := by rfl)
    (hdb : (x == ("__debug__" : Str)) = false := by decide) : SE X cl W (.Call (.Name x p) [] [] pos) (eCall n mf aNil) := by
  obtain ⟨f, fd, ps, F, hm, hk, hb⟩ := F
  refine ⟨fun pins s σ H Q I h => ?_⟩
  obtain ⟨mu, env, h, rel, p⟩ := h
  refine wpAny_Call_Name_kw (ld_glob I hg hm ?_ hdb)
  exact PySem.W.callWith_K0 I.kIn hk (runG (us := []) (vs := []) F hr hb tk I .nil ⟨mu, [], h, rel.hr, .nil, p⟩)
end
/-- a def as it stands behind the top -/
def DefAt (K : PySem.W.Frag) (mg : Str → Option Value) (x : Str) (st : Stmt) (ps : List Str) : Prop := ∃ f fd, Fun K x x st f fd ∧ mg x = some (.ref f) ∧ Binds K fd ps []
theorem FnS.mk {P : Program} {w : World} {K : PySem.W.Frag} {mg : Str → Option Value} {base : Heap} {cl : CW} {x : Str} {st : Stmt} {N ps : List Str} {k n : Nat} {m : MS} {mf : MF} (D : DefAt K mg x st ps) (S : FnScope N ps (defScope st))
    (hbody : ∀ (f : Addr) (cdv : Value) (A : Around) (outer : List Env) (s : Shared) (H : Hp) (E : XK), Rm gd k (A.deeper (envOfC x (defScope st) s.heap.objs.size f cdv)) →
      SB (cxOf (L2.CX P w) P w K mg base N x (defScope st) f cdv A outer s H E) cl (fun c d _ H' => E c d H') (defBody st) m)
    (hn : ps.length = n := by rfl) (hf : mFn N.length m = mf := by rfl) :
    FnS gd P w K mg base cl (k + 1) x n mf := by
  subst hn hf
  obtain ⟨f, fd, F, hm, hb⟩ := D
  exact ⟨f, fd, ps, fn_ok F S fun cdv A outer s H E hr => hbody f cdv A outer s H E hr, hm, F.kp, hb⟩
/-! ### the law's end -/
theorem sp_end {K : PySem.W.Frag} {cl : CW} {H : Hp} {a : Addr} {ns : List Int} {f : MF} (hO : Only H) (hS : SqL K H a (ns.map V.int)) (h : ∃ h', f [.sl (ns.map .int)] [] = .ok (.bl true) h') (hT : ∀ p ∈ cl.T, TbO H [] p.1 p.2) : spM K cl 1 f [.ref a] H (fun v _ => v = .bl true) (fun _ _ _ => False) := by
  obtain ⟨h', e⟩ := h
  have st : Stl K H a (ns.map V.int) := by
    rcases hS with (z | ⟨o, z⟩) | z
    · rcases hO a with q | ⟨o, xs, q⟩
      · rw [q] at z; cases z
      · rw [q] at z; cases z
    · exact .inl ⟨o, z⟩
    · exact .inr z
  have ra : ∀ ns : List Int, RpA K H [] (ns.map .int) (ns.map V.int) := by
    intro ns
    induction ns with
    | nil => exact .nil
    | cons n r ih => exact .cons (.int n) ih
  refine ⟨[], [.sl (ns.map .int)], [], ⟨rfl, by simp, fun n o a e1 _ => by simp at e1, hT⟩, .one (.sl st (ra ns)), ?_⟩
  show Post _ _ _ _ _ _ _ (guard 1 f [.sl (ns.map .int)] []) _
  have : guard 1 f [.sl (ns.map .int)] [] = .ok (.bl true) h' := e
  rw [this]
  intro v H' mu' _ _ r
  cases r
  rfl
theorem cx_end {P : Program} {w : World} {H : Hp} {s s' : Shared} {e : Value} (h : L2.CX P w [] H s (fun _ _ _ => False) e s') : False := by
  obtain ⟨_, _, _, _, _, _, _, _, _, _, _, _, z⟩ := h
  exact z
end DS

set_option Elab.async false
set_option linter.all false
set_option maxRecDepth 100000
set_option maxHeartbeats 4000000
namespace DS
open PySem PySem.Spec PyProof.Rows L2
/-! ### the head: constants, tables, defs -/
/-- the value u, in the written part, is the data d -/
def okV (K : PySem.W.Frag) : Nat → D → Value → Bool
  | _, .non, .none => true
  | _, .bl b, .bool c => decide (b = c)
  | _, .int i, .int j _ => decide (i = j)
  | _, .str x, .str y _ => decide (x = y)
  | n + 1, .tup ds, .ref a => (match K.lookup a with
    | some ⟨.type c, _, .seq its _, _⟩ => decide (c = "tuple") && (decide (its.size ≤ sizeLine) && (decide (ds.length = its.toList.length) && (ds.zip its.toList).all fun q => okV K n q.1 q.2))
    | _ => false)
  | _, _, _ => false
theorem okV_ok {K : PySem.W.Frag} : ∀ (n : Nat) (d : D) (u : Value), okV K n d u = true → ∃ v, RelV v u ∧ ∀ H mu, Rp K H mu d v := by
  intro n
  induction n with
  | zero =>
    intro d u h
    cases d <;> cases u <;> simp only [okV, decide_eq_true_eq, Bool.false_eq_true] at h
    · exact ⟨.non, rfl, fun _ _ => .non⟩
    · subst h; exact ⟨.bl _, rfl, fun _ _ => .bl _⟩
    · subst h; exact ⟨.int _, ⟨_, rfl⟩, fun _ _ => .int _⟩
    · subst h; exact ⟨.str _, ⟨_, rfl⟩, fun _ _ => .str _⟩
  | succ n ih =>
    intro d u h
    have all : ∀ (ds : List D) (us : List Value), ds.length = us.length → ((ds.zip us).all fun q => okV K n q.1 q.2) = true → ∃ vs, Vals vs us ∧ ∀ H mu, RpA K H mu ds vs := by
      intro ds
      induction ds with
      | nil =>
        intro us hl _
        cases us with
        | nil => exact ⟨[], .nil, fun _ _ => .nil⟩
        | cons _ _ => cases hl
      | cons d ds ih2 =>
        intro us hl h
        cases us with
        | nil => cases hl
        | cons u us =>
          rw [List.zip_cons_cons, List.all_cons, Bool.and_eq_true] at h
          obtain ⟨v, rv, hv⟩ := ih d u h.1
          obtain ⟨vs, rvs, hvs⟩ := ih2 us (Nat.succ.inj hl) h.2
          exact ⟨v :: vs, .cons rv rvs, fun H mu => .cons (hv H mu) (hvs H mu)⟩
    cases d <;> cases u <;> simp only [okV, decide_eq_true_eq, Bool.false_eq_true] at h
    · exact ⟨.non, rfl, fun _ _ => .non⟩
    · subst h; exact ⟨.bl _, rfl, fun _ _ => .bl _⟩
    · subst h; exact ⟨.int _, ⟨_, rfl⟩, fun _ _ => .int _⟩
    · subst h; exact ⟨.str _, ⟨_, rfl⟩, fun _ _ => .str _⟩
    · rename_i ds a
      cases q : K.lookup a with
      | none => rw [q] at h; cases h
      | some o =>
        obtain ⟨oc, od, dt, osl⟩ := o
        rw [q] at h
        cases oc with
        | type c =>
          cases dt with
          | seq its n =>
            simp only [Bool.and_eq_true, decide_eq_true_eq] at h
            obtain ⟨h1, h2, h3, h4⟩ := h
            subst h1
            obtain ⟨vs, rvs, hvs⟩ := all ds its.toList h3 h4
            exact ⟨.ref a, rfl, fun H mu => .tup (.inr ⟨_, _, _, q, rfl, rfl, h2, rvs⟩) (hvs H mu)⟩
          | _ => cases h
        | _ => cases dt <;> cases h
def gcB (K : PySem.W.Frag) (x : Str) (d : D) : Bool := match PySem.W.nsIn K mainGlobals x with
  | some (some u) => okV K 6 d u
  | _ => false
theorem gcB_ok {K : PySem.W.Frag} {h : Heap} {mg : Str → Option Value} (X : K.In h) (G : h.Ns mainGlobals mg) {x : Str} {d : D} (c : gcB K x d = true) : GC K mg x d := by
  unfold gcB at c
  cases e : PySem.W.nsIn K mainGlobals x with
  | none => rw [e] at c; cases c
  | some o =>
    rw [e] at c
    cases o with
    | none => cases c
    | some u =>
      obtain ⟨v, r, hv⟩ := okV_ok _ _ _ c
      exact ⟨v, u, PySem.W.mg_of X G e, r, hv⟩
def ktB (K : PySem.W.Frag) (a : Addr) (tab : List (Str × D)) : Bool := tab.all fun q => match PySem.W.nsIn K a q.1 with
  | some (some u) => okV K 6 q.2 u
  | _ => false
theorem lookup_mem2 {z : Str} {d : D} : ∀ {tab : List (Str × D)}, tab.lookup z = some d → (z, d) ∈ tab
  | [], h => by cases h
  | (y, e) :: r, h => by
    have h2 : (match z == y with | true => some e | false => r.lookup z) = some d := h
    cases q : (z == y) with
    | true =>
      rw [q] at h2
      have e2 : e = d := Option.some.inj h2
      rw [beq_iff_eq.mp q, e2]
      exact List.mem_cons_self
    | false => rw [q] at h2; exact List.mem_cons_of_mem _ (lookup_mem2 h2)
theorem ktB_ok {K : PySem.W.Frag} {w : World} {h : Heap} {mg : Str → Option Value} (X : K.In h) (G : h.Ns mainGlobals mg) {x : Str} {tab : List (Str × D)} (g : (He.Fa.glo x).ok K = true) (kd : ∃ es n, KDict K w (He.ga K x) es n) (c : ktB K (He.ga K x) tab = true) : KTab K w mg x tab := by
  refine ⟨_, He.glo_ok X G g, fun z d e => ?_⟩
  obtain ⟨es, n, D⟩ := kd
  have h2 := List.all_eq_true.mp c _ (lookup_mem2 e)
  simp only at h2
  cases q : PySem.W.nsIn K (He.ga K x) z with
  | none => rw [q] at h2; cases h2
  | some o =>
    rw [q] at h2
    cases o with
    | none => cases h2
    | some u =>
      obtain ⟨v, r, hv⟩ := okV_ok _ _ _ h2
      exact ⟨v, ⟨es, n, u, D.at_, D.lit, q, r⟩, hv⟩
theorem fun_of {K : PySem.W.Frag} {x qual : Str} {st : Stmt} {f : Addr} {fd : FuncData} (F : FunD K x qual (defArgs st) (defBody st) (defScope st) [] [] f fd) : Fun K x qual st f fd := by
  obtain ⟨oc, od, dV, kV, doc, pm, an, cdv, ct, osl, rfl, lk, hcd, hD, hK⟩ := F.ex
  rcases hD with ⟨_, rfl⟩ | ⟨e, _⟩
  · exact ⟨⟨oc, od, kV, doc, pm, an, cdv, ct, osl, rfl, lk, hcd⟩, F.kp⟩
  · exact absurd rfl e
abbrev defD (x : Str) (st : Stmt) : He.DefD := ⟨(x, none), x, x, defArgs st, defBody st, defScope st, [], []⟩
theorem defAt_of {fa : List He.Fa} {fn : List He.DefD} {K : PySem.W.Frag} {h : Heap} {mg : Str → Option Value} (X : K.In h) (G : h.Ns mainGlobals mg) (c : He.SaysD fa fn K) {x : Str} {st : Stmt} {ps : List Str} (i j : Nat) (hi : fa[i]? = some (.glo x)) (hj : fn[j]? = some (defD x st))
    (hb : ∀ (kV doc pm : Value) (an : Option Addr) (cdv ct : Value) (us : List Value), us.length = ps.length → bindArgs (PySem.W.fnOf x x (defArgs st) (defBody st) (defScope st) .none kV doc pm an cdv ct) ⟨us, []⟩ = pure (ps.zip us)) : DefAt K mg x st ps := by
  obtain ⟨fd, F⟩ := c.def_ j hj
  exact ⟨_, fd, fun_of F, He.glo_ok X G (c.fact i hi), FunD.bindsN F hb⟩
theorem fn_okE {P : Program} {w : World} {K : PySem.W.Frag} {mg : Str → Option Value} {base : Heap} {cl : CW} {x : Str} {st : Stmt} {N ps : List Str} {k n : Nat} {m : MS} {mf : MF} {f : Addr} {fd : FuncData} (F : Fun K x x st f fd) (S : FnScope N ps (defScope st))
    (hbody : ∀ (cdv : Value) (A : Around) (outer : List Env) (s : Shared) (H : Hp) (E : XK), Rm gd k (A.deeper (envOfC x (defScope st) s.heap.objs.size f cdv)) →
      SB (cxOf (L2.CX P w) P w K mg base N x (defScope st) f cdv A outer s H E) cl (fun c d _ H' => E c d H') (defBody st) m)
    (hn : ps.length = n := by rfl) (hf : mFn N.length m = mf := by rfl) :
    FnG gd P w K mg base (k + 1) f fd ps (spM K cl n mf) := by
  subst hn hf
  exact fn_ok F S hbody
/-- walk_ofE, by a world -/
theorem walk_ofW {l : PySem.W.OpenLaw} {n k : Nat} {q : Program} {loose : List Str} {XP : (Str → Option Value) → Heap → Prop} {YP : World → Heap → Prop} {d : DefRec} {x : Str}
    (hn : l.most = some n) (hn2 : n ≤ sizeLine) (hdf : d.params.defaults = []) (hr : Room k callerA)
    (F : ∀ (w : World) (mg : Str → Option Value) (fa : Addr) (h : Heap), YP w h → h.Ns mainGlobals mg → mg d.name = some (.ref fa) →
      ∃ (K : PySem.W.Frag) (fd : FuncData) (sp : Sp), K.In h ∧ (∀ (s : Shared) (u : Value), BindsTo s fd ⟨[u], []⟩ [(x, u)]) ∧
        (∀ (H : Hp) (a : Addr) (ns : List Int), ns.length ≤ n → Only H → SqL K H a (ns.map V.int) → sp [.ref a] H (fun v _ => v = .bl true) fun _ _ _ => False) ∧
        ∀ base : Heap, K.In base → base.Ns mainGlobals mg → FnG true l.prog w K mg base k fa fd [x] sp)
    (hCX : ∀ (w : World) (H : Hp) (s : Shared) (e : Value) (s' : Shared), L2.CX l.prog w [] H s (fun _ _ _ => False) e s' → False) :
    PySem.W.WalkO q loose XP YP l.row.toRowW d [] (fun f vs => PySem.call f vs) := by
  refine Att.attach_call hn hdf fun w s₀ s₁ mg mb fa o pm cd doc a vs ns G Y ho hd hcd hmg hobj hints hlen hg => ?_
  obtain ⟨K, fd, sp, KX, hb, hsp, hF⟩ := F w mg fa _ Y G.T.g hmg
  exact law_callG KX G.T.g G.T.b G.T.builtins G.T.nolimit hg hobj hints (Nat.le_trans hlen hn2) hr hF hb (fun H hO hS => hsp H a ns hlen hO hS) fun H e s' => hCX w H s₁ e s'
end DS

set_option Elab.async false
set_option linter.all false
set_option maxRecDepth 100000
set_option maxHeartbeats 4000000
/-! DSK: meanings evaluated: closed heaps, returns, loops, comprehensions. -/
namespace DS
open PySem
mutual
theorem dLow_mono {n m : Nat} (hm : n ≤ m) : ∀ {d : D}, dLow n d = true → dLow m d = true
  | .non, _ => rfl
  | .bl _, _ => rfl
  | .int _, _ => rfl
  | .str _, _ => rfl
  | .ref k, h => by
    simp only [dLow, decide_eq_true_eq] at h ⊢
    omega
  | .tup xs, h => by
    simp only [dLow] at h ⊢
    exact dLows_mono hm h
  | .sl xs, h => by
    simp only [dLow] at h ⊢
    exact dLows_mono hm h
theorem dLows_mono {n m : Nat} (hm : n ≤ m) : ∀ {ds : List D}, dLows n ds = true → dLows m ds = true
  | [], _ => rfl
  | d :: ds, h => by
    simp only [dLows, Bool.and_eq_true] at h ⊢
    exact ⟨dLow_mono hm h.1, dLows_mono hm h.2⟩
end
theorem oLow_mono {n m : Nat} (hm : n ≤ m) {o : O} (h : oLow n o = true) : oLow m o = true := by
  cases o with
  | dtt kvs =>
    have h' : (dLows n (kvs.map (·.1)) && dLows n (kvs.map (·.2))) = true := h
    rw [Bool.and_eq_true] at h'
    show (dLows m (kvs.map (·.1)) && dLows m (kvs.map (·.2))) = true
    rw [dLows_mono hm h'.1, dLows_mono hm h'.2]; rfl
  | dtz kvs =>
    have h' : (dLows n (kvs.map (·.1)) && dLows n (kvs.map (·.2))) = true := h
    rw [Bool.and_eq_true] at h'
    show (dLows m (kvs.map (·.1)) && dLows m (kvs.map (·.2))) = true
    rw [dLows_mono hm h'.1, dLows_mono hm h'.2]; rfl
  | lst _ => exact dLows_mono hm h
  | otp _ => exact dLows_mono hm h
  | dct _ => exact dLows_mono hm h
  | ins _ _ => exact dLows_mono hm h
  | xob _ _ => exact dLows_mono hm h
def Cl (h : Hs) : Prop := h.all (oLow h.length) = true
theorem Cl.nil : Cl [] := rfl
theorem Cl.add {h : Hs} {o : O} (hc : Cl h) (ho : oLow (h.length + 1) o = true) : Cl (h ++ [o]) := by
  unfold Cl at *
  simp only [List.all_append, List.all_cons, List.all_nil, Bool.and_true, Bool.and_eq_true, List.length_append, List.length_cons, List.length_nil, Nat.zero_add]
  refine ⟨?_, ho⟩
  rw [List.all_eq_true] at hc ⊢
  exact fun o ho => oLow_mono (Nat.le_succ _) (hc o ho)
theorem dLows_of {n : Nat} {ds : List D} : dLows n ds = ds.all (dLow n) := by
  induction ds with
  | nil => rfl
  | cons d r ih => simp only [dLows, List.all_cons, ih]
theorem low_lst {n : Nat} {ds : List D} (h : ∀ d ∈ ds, dLow n d = true) : oLow n (.lst ds) = true := by
  show dLows n ds = true
  rw [dLows_of, List.all_eq_true]
  exact h
theorem Cl.lst {h : Hs} (hc : Cl h) {ds : List D} (hd : ∀ d ∈ ds, dLow h.length d = true) : Cl (h ++ [.lst ds]) := hc.add (low_lst fun d hd' => dLow_mono (Nat.le_succ _) (hd d hd'))
/-! ### returns -/
theorem gc_low {h : Hs} {n : Nat} {r : Hs} {d : D} (hl : h.length = n) (hc : Cl h) (hd : dLow n d = true) : gcR n (.ok d (h ++ r)) = .ok d h := by
  subst hl
  have e : (h ++ r).take h.length = h := List.take_left
  simp only [gcR]
  rw [e, if_pos (show h.all (oLow h.length) = true from hc), if_pos hd]
theorem gc_low0 {h : Hs} {n : Nat} {d : D} (hl : h.length = n) (hc : Cl h) (hd : dLow n d = true) : gcR n (.ok d h) = .ok d h := by
  have := gc_low (r := []) hl hc hd
  rwa [List.append_nil] at this
theorem mFn_ret {N : Nat} {body : MS} {ds : List D} {h h1 r : Hs} {d : D} (hb : body (startE N ds) h = .ret d (h1 ++ r)) (hl : h1.length = h.length) (hc : Cl h1) (hd : dLow h.length d = true) : mFn N body ds h = .ok d h1 := by
  unfold mFn
  rw [hb]
  exact gc_low hl hc hd
theorem mFn_ret0 {N : Nat} {body : MS} {ds : List D} {h : Hs} {d : D} (hc : Cl h) (hb : body (startE N ds) h = .ret d h) (hd : dLow h.length d = true) : mFn N body ds h = .ok d h := by
  unfold mFn
  rw [hb]
  exact gc_low0 rfl hc hd
theorem mFn_new {N : Nat} {body : MS} {ds : List D} {h h1 r : Hs} {k : Nat} {o : O} (hb : body (startE N ds) h = .ret (.ref k) (h1 ++ r)) (hl : h1.length = h.length) (hc : Cl h1) (hk : h.length ≤ k) (ho : (h1 ++ r)[k]? = some o) (hw : oLow h.length o = true) : mFn N body ds h = .ok (.ref h.length) (h1 ++ [o]) := by
  unfold mFn
  rw [hb]
  show gcR h.length (.ok (.ref k) (h1 ++ r)) = _
  rw [← hl] at hk hw ⊢
  have e : (h1 ++ r).take h1.length = h1 := List.take_left
  simp only [gcR]
  rw [e, if_pos (show h1.all (oLow h1.length) = true from hc), if_neg (by simp only [dLow, decide_eq_true_eq]; omega)]
  simp only [ho]
  rw [if_pos (by rw [hw, Bool.true_and, decide_eq_true_eq]; exact hk)]
/-! ### bodies -/
theorem tidy_nx {clr : List Nat} {m : MS} {e e1 : En} {h h1 r : Hs} (hm : m e h = .nx e1 (h1 ++ r)) (hl : h1.length = h.length) (hc : Cl h1) (he : eLow h.length (wipeE e1 clr) = true) : sTidy clr m e h = .nx (wipeE e1 clr) h1 := by
  unfold sTidy tidyE
  rw [hm]
  rw [← hl] at he ⊢
  show RS.nx (if (eLow h1.length (wipeE e1 clr) && (((h1 ++ r).take h1.length).all (oLow h1.length))) = true then _ else _ : En × Hs).1 _ = _
  rw [List.take_left, if_pos (by rw [he, Bool.true_and]; exact hc)]
theorem tidy_ret {clr : List Nat} {m : MS} {e : En} {h h1 : Hs} {d : D} (hm : m e h = .ret d h1) : sTidy clr m e h = .ret d h1 := by
  unfold sTidy
  rw [hm]
/-! ### loops -/
theorem forGo_inv {it : Iter} {g : MG} {body : MS} (I : Nat → En → Hs → Prop) (n : Nat)
    (hs : ∀ i e h, i < n → I i e h → ∃ d e1 h1 e2 h2, it.get i h = some (some d) ∧ g d e h = .ok e1 h1 ∧ body e1 h1 = .nx e2 h2 ∧ I (i + 1) e2 h2)
    (hend : ∀ e h, I n e h → it.get n h = some none) : ∀ (k i : Nat) (e : En) (h : Hs), i + k = n → I i e h → ∃ e' h', forGo it g body k i e h = .nx e' h' ∧ I n e' h'
  | 0, i, e, h, hi, hI => by
    have : i = n := by omega
    subst this
    refine ⟨e, h, ?_, hI⟩
    unfold forGo
    rw [hend e h hI]
  | k + 1, i, e, h, hi, hI => by
    obtain ⟨d, e1, h1, e2, h2, q1, q2, q3, hI2⟩ := hs i e h (by omega) hI
    obtain ⟨e', h', r, hI'⟩ := forGo_inv I n hs hend k (i + 1) e2 h2 (by omega) hI2
    refine ⟨e', h', ?_, hI'⟩
    unfold forGo
    rw [q1]
    simp only [q2, q3]
    exact r
theorem forGo_run {it : Iter} {g : MG} {body : MS} (E : Nat → En) (H : Nat → Hs) (n : Nat)
    (hs : ∀ i, i < n → ∃ d e1 h1, it.get i (H i) = some (some d) ∧ g d (E i) (H i) = .ok e1 h1 ∧ body e1 h1 = .nx (E (i + 1)) (H (i + 1)))
    (hend : it.get n (H n) = some none) : forGo it g body n 0 (E 0) (H 0) = .nx (E n) (H n) := by
  obtain ⟨e', h', r, h1, h2⟩ := forGo_inv (it := it) (g := g) (body := body) (fun i e h => e = E i ∧ h = H i) n (fun i e h hi ⟨he, hh⟩ => by
    subst he hh
    obtain ⟨d, e1, h1, q1, q2, q3⟩ := hs i hi
    exact ⟨d, e1, h1, _, _, q1, q2, q3, rfl, rfl⟩) (fun e h ⟨_, hh⟩ => by rw [hh]; exact hend) n 0 (E 0) (H 0) (by omega) ⟨rfl, rfl⟩
  rw [r, h1, h2]
theorem rng_get {lo : Int} {n i : Nat} {h : Hs} (hi : i < n) : (Iter.rng lo n).get i h = some (some (.int (lo + i))) := by
  show (if i < n then _ else _) = _
  rw [if_pos hi]
theorem rng_end {lo : Int} {n : Nat} {h : Hs} : (Iter.rng lo n).get n h = some none := by
  show (if n < n then _ else _) = _
  rw [if_neg (Nat.lt_irrefl _), if_pos rfl]
/-- for x in range(n), the state by the index -/
theorem for_rng {mi : MI} {g : MG} {body : MS} {e : En} {h : Hs} {lo : Int} {n : Nat} (E : Nat → En) (H : Nat → Hs) (hm : mi e h = .ok (.rng lo n) h) (h0 : E 0 = e) (hh0 : H 0 = h)
    (hs : ∀ i, i < n → ∃ e1 h1, g (.int (lo + i)) (E i) (H i) = .ok e1 h1 ∧ body e1 h1 = .nx (E (i + 1)) (H (i + 1))) : sFor mi g body e h = .nx (E n) (H n) := by
  unfold sFor
  rw [hm]
  show forGo _ g body n 0 e h = _
  rw [← h0, ← hh0]
  exact forGo_run E H n (fun i hi => by
    obtain ⟨e1, h1, q⟩ := hs i hi
    exact ⟨_, e1, h1, rng_get hi, q⟩) rng_end
theorem for_rng_inv {mi : MI} {g : MG} {body : MS} {e : En} {h h0 : Hs} {lo : Int} {n : Nat} (I : Nat → En → Hs → Prop) (hm : mi e h = .ok (.rng lo n) h0) (hi0 : I 0 e h0)
    (hs : ∀ i e h, i < n → I i e h → ∃ e1 h1 e2 h2, g (.int (lo + i)) e h = .ok e1 h1 ∧ body e1 h1 = .nx e2 h2 ∧ I (i + 1) e2 h2) : ∃ e' h', sFor mi g body e h = .nx e' h' ∧ I n e' h' := by
  unfold sFor
  rw [hm]
  exact forGo_inv (it := .rng lo n) I n (fun i e h hi hI => by
    obtain ⟨e1, h1, e2, h2, q1, q2, q3⟩ := hs i e h hi hI
    exact ⟨_, e1, h1, e2, h2, rng_get hi, q1, q2, q3⟩) (fun e h hI => rng_end) n 0 e h0 (by omega) hi0
/-- for x in a tuple -/
theorem for_tup {mi : MI} {g : MG} {body : MS} {e : En} {h : Hs} {xs : List D} (E : Nat → En) (H : Nat → Hs) (hm : mi e h = .ok (.one (.st xs)) h) (h0 : E 0 = e) (hh0 : H 0 = h)
    (hs : ∀ (i : Nat) (d : D), xs[i]? = some d → ∃ e1 h1, g d (E i) (H i) = .ok e1 h1 ∧ body e1 h1 = .nx (E (i + 1)) (H (i + 1))) : sFor mi g body e h = .nx (E xs.length) (H xs.length) := by
  unfold sFor
  rw [hm]
  show forGo _ g body xs.length 0 e h = _
  rw [← h0, ← hh0]
  refine forGo_run E H xs.length (fun i hi => ?_) ?_
  · obtain ⟨e1, h1, q⟩ := hs i xs[i] (List.getElem?_eq_getElem hi)
    exact ⟨_, e1, h1, by show some xs[i]? = _; rw [List.getElem?_eq_getElem hi], q⟩
  · show some xs[xs.length]? = _
    rw [List.getElem?_eq_none (Nat.le_refl _)]
theorem for_enum {mi : MI} {g : MG} {body : MS} {e : En} {h : Hs} {xs : List D} (E : Nat → En) (H : Nat → Hs) (hm : mi e h = .ok (.enum (.st xs)) h) (h0 : E 0 = e) (hh0 : H 0 = h)
    (hs : ∀ (i : Nat) (d : D), xs[i]? = some d → ∃ e1 h1, g (.tup [.int i, d]) (E i) (H i) = .ok e1 h1 ∧ body e1 h1 = .nx (E (i + 1)) (H (i + 1))) : sFor mi g body e h = .nx (E xs.length) (H xs.length) := by
  unfold sFor
  rw [hm]
  show forGo _ g body xs.length 0 e h = _
  rw [← h0, ← hh0]
  refine forGo_run E H xs.length (fun i hi => ?_) ?_
  · obtain ⟨e1, h1, q⟩ := hs i xs[i] (List.getElem?_eq_getElem hi)
    exact ⟨_, e1, h1, by
      have q2 : (Src.st xs).get i (H i) = some (some xs[i]) := by show some xs[i]? = _; rw [List.getElem?_eq_getElem hi]
      simp only [Iter.get, q2], q⟩
  · have q2 : (Src.st xs).get xs.length (H xs.length) = some none := by show some xs[xs.length]? = _; rw [List.getElem?_eq_none (Nat.le_refl _)]
    simp only [Iter.get, q2]
    exact if_pos rfl
/-! ### comprehensions -/
theorem cpGo_run {it : Iter} {g : Tgt} {t : MT} {e : ME} {env : En} {h : Hs} {n : Nat} (T : Nat → Bool) (Y : Nat → D) (hn : n ≤ 1000)
    (hs : ∀ i, i < n → ∃ d e1, it.get i h = some (some d) ∧ g.put d env = some e1 ∧ t e1 h = .ok (T i) h ∧ (T i = true → gcR h.length (e e1 h) = .ok (Y i) h)) (hend : it.get n h = some none) :
    ∀ (k i : Nat) (acc : List D), i + k = n → acc.length ≤ i → cpGo it g t e env k i acc h = .ok (acc ++ (((List.range k).map (i + ·)).filter T).map Y) h
  | 0, i, acc, hi, ha => by
    have : i = n := by omega
    subst this
    unfold cpGo
    rw [hend]
    simp
  | k + 1, i, acc, hi, ha => by
    obtain ⟨d, e1, q1, q2, q3, q4⟩ := hs i (by omega)
    have key : (List.range (k + 1)).map (i + ·) = i :: (List.range k).map (i + 1 + ·) := by
      rw [List.range_succ_eq_map, List.map_cons, List.map_map]
      simp only [Nat.add_zero, List.cons.injEq, true_and]
      apply List.map_congr_left
      intro a _
      show i + (a + 1) = i + 1 + a
      omega
    rw [key]
    unfold cpGo
    rw [q1]
    simp only [q2, q3, R.nox, bind_ok]
    cases q : T i with
    | true =>
      simp only [if_true, q4 q, R.nox, bind_ok]
      have : acc.length < sizeLine := Nat.lt_of_le_of_lt (show acc.length ≤ 1000 by omega) (by decide)
      rw [if_pos this, cpGo_run T Y hn hs hend k (i + 1) (acc ++ [Y i]) (by omega) (by simp only [List.length_append, List.length_cons, List.length_nil]; omega)]
      rw [List.filter_cons_of_pos q, List.map_cons, List.append_assoc]
      rfl
    | false =>
      rw [if_neg (by decide), cpGo_run T Y hn hs hend k (i + 1) acc (by omega) (by omega), List.filter_cons_of_neg (by rw [q]; decide)]
theorem comp_run {vs : List Nat} {mi : MI} {g : Tgt} {t : MT} {e : ME} {env : En} {h : Hs} {it : Iter} {n : Nat} (T : Nat → Bool) (Y : Nat → D) (hm : mi env h = .ok it h) (hl : it.len h = n) (hn : n ≤ 1000)
    (hs : ∀ i, i < n → ∃ d e1, it.get i h = some (some d) ∧ g.put d (wipeE env vs) = some e1 ∧ t e1 h = .ok (T i) h ∧ (T i = true → gcR h.length (e e1 h) = .ok (Y i) h)) (hend : it.get n h = some none) :
    eComp vs mi g t e env h = .ok (.ref h.length) (h ++ [.lst (((List.range n).filter T).map Y)]) := by
  unfold eComp
  rw [hm]
  show (cpGo it g t e (wipeE env vs) (it.len h) 0 [] h).bind _ = _
  rw [hl, cpGo_run T Y hn hs hend n 0 [] (by omega) (Nat.le_refl _)]
  simp only [bind_ok, List.nil_append, Nat.zero_add, List.map_id']
theorem filter_true (n : Nat) : (List.range n).filter (fun _ => true) = List.range n := List.filter_eq_self.mpr fun _ _ => rfl
/-! ### while -/
theorem whGo_inv {t : MT} {body : MS} (I : Nat → En → Hs → Prop) (hs : ∀ i e h, I i e h → (∃ h1, t e h = .ok false h1 ∧ I 0 e h1) ∨ ∃ h1 e2 h2, t e h = .ok true h1 ∧ body e h1 = .nx e2 h2 ∧ ∃ j, j < i ∧ I j e2 h2) :
    ∀ (k i : Nat) (e : En) (h : Hs), i < k → I i e h → ∃ e' h', whGo t body k e h = .nx e' h' ∧ I 0 e' h'
  | 0, _, _, _, hi, _ => by omega
  | k + 1, i, e, h, hi, hI => by
    rcases hs i e h hI with ⟨h1, q, hI1⟩ | ⟨h1, e2, h2, q1, q2, j, hj, hI2⟩
    · refine ⟨e, h1, ?_, hI1⟩
      unfold whGo
      rw [q]
      rfl
    · obtain ⟨e', h', r, hI'⟩ := whGo_inv I hs k j e2 h2 (by omega) hI2
      refine ⟨e', h', ?_, hI'⟩
      unfold whGo
      rw [q1]
      simp only [ofR_ok, if_true, q2]
      exact r
end DS

set_option Elab.async false
set_option linter.all false
set_option maxRecDepth 100000
set_option maxHeartbeats 4000000
/-! DSL: the laws' draws (alike in all of them). -/
namespace DS
open PySem
def dMixedB : MS :=
    (sSeq (sSet 0 (eOp2 vMod (eOpN vInt (aCons (eVar 0) aNil)) (eC (.int 2147483647))))
    (sRet (eOp2 vMod (eOp2 vMul (eOp2 vMod (eOp2 vAdd (eOp2 vAdd (eOp2 vMul (eVar 0) (eOp2 vAdd (eC (.int 48271)) (eOp2 vMul (eOp2 vMul (eC (.int 2)) (eVar 1)) (eVar 1)))) (eOp2 vMul (eC (.int 69621)) (eVar 1))) (eC (.int 11))) (eC (.int 2147483647))) (eC (.int 69621))) (eC (.int 2147483629)))))
def dMixed : MF := mFn 2 dMixedB
def dBeginB : MS :=
    (sSeq (sSet 1 (eIfM (tsB (eOp2 vNe (eVar 0) (eOpN vLst aNil))) (eOpN vList (aCons (eVar 0) aNil)) (eOpN vLst (aCons (eC (.int 0)) aNil))))
    (sRet (eDict [((eC (.str "cells")), (eVar 1)), ((eC (.str "lefts")), (eComp [2] (iSeq (eVar 1)) (.nm 2) tTrue (eIfM (tsB (eOp2 vGe (eVar 2) (eOp2 vPow (eC (.int 10)) (eC (.int 18))))) (eVar 2) (eC (.int 0))))), ((eC (.str "at")), (eC (.int 0))), ((eC (.str "room")), (eC (.int 0)))])))
def dBegin : MF := mFn 3 dBeginB
def dDrawB : MS :=
    (sSeq (sSet 2 (eOp2 vDGet (eVar 0) (eC (.str "at"))))
    (sSeq (sPut vDPut (eOp2 vAdd (eVar 2) (eC (.int 1))) (eVar 0) (eC (.str "at")))
    (sSeq (sSet 3 (eOp2 vMod (eOpN vInt (aCons (eVar 2) aNil)) (eOpN vLen (aCons (eOp2 vDGet (eVar 0) (eC (.str "cells"))) aNil))))
    (sSeq (sSet 4 (eOp2 vIx (eOp2 vDGet (eVar 0) (eC (.str "lefts"))) (eVar 3)))
    (sSeq (sIf (tsB (eOp2 vGt (eVar 4) (eC (.int 0)))) (sSeq (sPut vLPut (eOp2 vFdiv (eVar 4) (eVar 1)) (eOp2 vDGet (eVar 0) (eC (.str "lefts"))) (eVar 3))
    (sRet (eOp2 vMod (eOpN vInt (aCons (eVar 4) aNil)) (eVar 1)))) sPass)
    (sSeq (sSet 5 (eCall 2 dMixed (aCons (eCall 2 dMixed (aCons (eOp2 vIx (eOp2 vDGet (eVar 0) (eC (.str "cells"))) (eVar 3)) (aCons (eVar 2) aNil))) (aCons (eOp2 vAdd (eC (.int 40)) (eVar 2)) aNil))))
    (sRet (eOp2 vMod (eOp2 vFdiv (eOpN vInt (aCons (eOp2 vAdd (eOp2 vMul (eVar 5) (eC (.int 2147483647))) (eCall 2 dMixed (aCons (eVar 5) (aCons (eOp2 vAdd (eC (.int 7)) (eVar 2)) aNil)))) aNil)) (eC (.int 64))) (eVar 1)))))))))
def dDraw : MF := mFn 6 dDrawB
def dOfB : MS :=
    (sRet (eOp2 vIx (eVar 1) (eCall 2 dDraw (aCons (eVar 0) (aCons (eOpN vLen (aCons (eVar 1) aNil)) aNil)))))
def dOf : MF := mFn 2 dOfB
/-! ### the state -/
structure S where
  cs : List Int
  ls : List Int
  a : Int
def S.hp (s : S) : Hs := [.lst [], .lst (s.cs.map .int), .lst (s.ls.map .int), .dct [(.inr "cells", .ref 1), (.inr "lefts", .ref 2), (.inr "at", .int s.a), (.inr "room", .int 0)]]
/-- room for m draws more -/
structure S.ok (s : S) (m : Nat) : Prop where
  len : s.cs.length = s.ls.length
  pos : 0 < s.cs.length
  few : s.cs.length ≤ 63
  low : 0 ≤ s.a
  top : s.a + m ≤ 1000000000
theorem S.ok.mono {s : S} {m n : Nat} (h : s.ok m) (hn : n ≤ m) : s.ok n := ⟨h.len, h.pos, h.few, h.low, by have := h.top; omega⟩
theorem ints_low {n : Nat} {ns : List Int} : dLows n (ns.map .int) = true := by
  rw [dLows_of, List.all_eq_true]
  intro d hd
  obtain ⟨i, _, rfl⟩ := List.mem_map.mp hd
  rfl
theorem S.hp_low (s : S) {n : Nat} (hn : 4 ≤ n) : s.hp.all (oLow n) = true := by
  unfold S.hp
  simp only [List.all_cons, List.all_nil, oLow, ints_low, dLows, dLow, List.map_cons, List.map_nil, Bool.true_and, Bool.and_true, Bool.and_eq_true, decide_eq_true_eq]
  omega
theorem S.cl (s s' : S) {r : Hs} (h : Cl (s.hp ++ r)) : Cl (s'.hp ++ r) := by
  unfold Cl at *
  have e : (s'.hp ++ r).length = (s.hp ++ r).length := by simp [S.hp]
  rw [e]
  rw [List.all_append, Bool.and_eq_true] at h ⊢
  exact ⟨s'.hp_low (by simp [S.hp]), h.2⟩
theorem S.cl0 (s : S) : Cl s.hp := s.hp_low (Nat.le_refl _)
/-! ### mixing -/
def mix (c k : Int) : Int := (c % 2147483647 * (48271 + 2 * k * k) + 69621 * k + 11) % 2147483647 * 69621 % 2147483629
theorem mulOk_l {i j : Int} (h0 : 0 ≤ i) (h1 : i < 2 ^ 64) : mulOk i j = true := by
  unfold mulOk
  rw [Bool.or_eq_true]
  exact .inl (Nat.ble_eq_true_of_le (by omega))
theorem mulOk_r {i j : Int} (h0 : 0 ≤ j) (h1 : j < 2 ^ 64) : mulOk i j = true := by
  unfold mulOk
  rw [Bool.or_eq_true]
  exact .inr (Nat.ble_eq_true_of_le (by omega))
theorem vMul_ok {i j : Int} {h : Hs} (q : mulOk i j = true) : vMul (.int i) (.int j) h = some (.int (i * j), h) := by
  show (if mulOk i j = true then _ else _) = _
  rw [if_pos q]
theorem vMod_ok {i j : Int} {h : Hs} (q : 0 < j) : vMod (.int i) (.int j) h = some (.int (i % j), h) := by
  show (if 0 < j then _ else _) = _
  rw [if_pos q]
theorem vFdiv_ok {i j : Int} {h : Hs} (q : 0 < j) (q2 : j < 1073741824) : vFdiv (.int i) (.int j) h = some (.int (i / j), h) := by
  show (if (decide (0 < j) && Nat.ble j.natAbs 1073741823) = true then _ else _) = _
  rw [if_pos (by rw [decide_eq_true q, Bool.true_and]; exact Nat.ble_eq_true_of_le (by omega))]
theorem vAdd_int {i j : Int} {h : Hs} : vAdd (.int i) (.int j) h = some (.int (i + j), h) := rfl
theorem vSub_int {i j : Int} {h : Hs} : vSub (.int i) (.int j) h = some (.int (i - j), h) := rfl
theorem vInt_int {i : Int} {h : Hs} : vInt [.int i] h = some (.int i, h) := rfl
theorem vGt_int {i j : Int} {h : Hs} : vGt (.int i) (.int j) h = some (.bl (decide (i > j)), h) := rfl
theorem mixed_eq {c k : Int} {h : Hs} (hc : Cl h) (k0 : 0 ≤ k) (k1 : k < 2 ^ 40) : dMixed [.int c, .int k] h = .ok (.int (mix c k)) h := by
  refine mFn_ret0 hc ?_ rfl
  have p : (2 : Int) ^ 40 < 2 ^ 64 := by decide
  have m1 : mulOk 2 k = true := mulOk_l (by decide) (by decide)
  have m2 : mulOk (2 * k) k = true := mulOk_r k0 (by omega)
  have c0 := Int.emod_nonneg c (show (2147483647 : Int) ≠ 0 by decide)
  have c1 := Int.emod_lt_of_pos c (show (0 : Int) < 2147483647 by decide)
  have p2 : (2147483647 : Int) < 2 ^ 64 := by decide
  have m3 : mulOk (c % 2147483647) (48271 + 2 * k * k) = true := mulOk_l c0 (by omega)
  have m4 : mulOk 69621 k = true := mulOk_l (by decide) (by decide)
  have m5 : ∀ x, mulOk x 69621 = true := fun x => mulOk_r (by decide) (by decide)
  show dMixedB [some (.int c), some (.int k)] h = _
  simp only [dMixedB, sSeq, sSet, sRet, eOp2, eOpN, aCons, aNil, eVar, eC, vInt_int, bind_ok, lft_some, ofR_ok, List.map_cons, List.map_nil, List.length_cons, List.length_nil, List.replicate, List.append_nil, List.getElem?_cons_zero, List.getElem?_cons_succ, List.set_cons_zero, vMod_ok (show (0 : Int) < 2147483647 by decide), vMod_ok (show (0 : Int) < 2147483629 by decide), vMul_ok m1, vMul_ok m2, vMul_ok m3, vMul_ok m4, vMul_ok (m5 _), vAdd_int, mix]
theorem mix_lo (c k : Int) : 0 ≤ mix c k := Int.emod_nonneg _ (by decide)
/-! ### a draw -/
def S.place (s : S) : Nat := (s.a % s.cs.length).toNat
def S.left (s : S) : Int := s.ls.getD s.place 0
def S.cell (s : S) : Int := s.cs.getD s.place 0
def S.num (s : S) : Int := mix (mix s.cell s.a) (40 + s.a)
def S.val (s : S) (m : Int) : Int := if 0 < s.left then s.left % m else (s.num * 2147483647 + mix s.num (7 + s.a)) / 64 % m
def S.next (s : S) (m : Int) : S := { s with a := s.a + 1, ls := if 0 < s.left then s.ls.set s.place (s.left / m) else s.ls }
theorem S.val_lo (s : S) {m : Int} (hm : 0 < m) : 0 ≤ s.val m := by
  unfold S.val
  split <;> exact Int.emod_nonneg _ (by omega)
theorem S.val_hi (s : S) {m : Int} (hm : 0 < m) : s.val m < m := by
  unfold S.val
  split <;> exact Int.emod_lt_of_pos _ hm
theorem S.next_ok {s : S} {n : Nat} (h : s.ok (n + 1)) (m : Int) : (s.next m).ok n := by
  obtain ⟨h1, h2, h3, h4, h5⟩ := h
  refine ⟨?_, h2, h3, ?_, ?_⟩
  · show s.cs.length = (if 0 < s.left then s.ls.set s.place (s.left / m) else s.ls).length
    split
    · rw [List.length_set]; exact h1
    · exact h1
  · show 0 ≤ s.a + 1
    omega
  · show s.a + 1 + n ≤ 1000000000
    have : ((n + 1 : Nat) : Int) = n + 1 := by omega
    omega
theorem atI_nat {α : Type} {xs : List α} {i : Nat} (h : i < xs.length) : L2.atI xs (i : Int) = some xs[i] := by
  unfold L2.atI L2.ixN
  rw [if_pos (by omega), if_pos (by omega)]
  show xs[(i : Int).toNat]? = _
  rw [Int.toNat_natCast, List.getElem?_eq_getElem h]
theorem atI_int {α : Type} {xs : List α} {i : Int} (h0 : 0 ≤ i) (h : i < xs.length) : L2.atI xs i = some (xs[i.toNat]'(by omega)) := by
  have e : i = (i.toNat : Int) := by omega
  have k := atI_nat (xs := xs) (i := i.toNat) (by omega)
  rw [← e] at k
  exact k
theorem S.place_lt {s : S} {n : Nat} (h : s.ok n) : s.place < s.cs.length := by
  unfold S.place
  have h1 := Int.emod_lt_of_pos s.a (show (0 : Int) < s.cs.length by have := h.pos; omega)
  have h2 := Int.emod_nonneg s.a (show (s.cs.length : Int) ≠ 0 by have := h.pos; omega)
  omega
theorem S.place_eq {s : S} {n : Nat} (h : s.ok n) : s.a % s.cs.length = (s.place : Int) := by
  unfold S.place
  have := Int.emod_nonneg s.a (show (s.cs.length : Int) ≠ 0 by have := h.pos; omega)
  omega
theorem draw_eq {s : S} {r : Hs} {m : Int} (hs : s.ok 1) (hc : Cl (s.hp ++ r)) (hm : 0 < m) (hm2 : m < 1073741824) : dDraw [.ref 3, .int m] (s.hp ++ r) = .ok (.int (s.val m)) ((s.next m).hp ++ r) := by
  refine mFn_ret (r := []) ?_ (by simp [S.hp]) (S.cl s _ hc) rfl
  rw [List.append_nil]
  have hp := S.place_lt hs
  have hpl : s.place < s.ls.length := by have := hs.len; omega
  have ec : L2.atI (s.cs.map D.int) (s.a % s.cs.length) = some (.int s.cell) := by
    rw [S.place_eq hs, atI_nat (by rw [List.length_map]; exact hp), List.getElem_map]
    unfold S.cell
    rw [List.getD_eq_getElem?_getD, List.getElem?_eq_getElem hp]; rfl
  have el : L2.atI (s.ls.map D.int) (s.a % s.cs.length) = some (.int s.left) := by
    rw [S.place_eq hs, atI_nat (by rw [List.length_map]; exact hpl), List.getElem_map]
    unfold S.left
    rw [List.getD_eq_getElem?_getD, List.getElem?_eq_getElem hpl]; rfl
  have a1 : Cl (({ s with a := s.a + 1 } : S).hp ++ r) := S.cl s _ hc
  have t := hs.top
  have l := hs.low
  have p40 : (1000000000 : Int) + 100 < 2 ^ 40 := by decide
  have x1 := fun c => mixed_eq (c := c) (k := s.a) a1 l (by omega)
  have x2 := fun c => mixed_eq (c := c) (k := 40 + s.a) a1 (by omega) (by omega)
  have x3 := fun c => mixed_eq (c := c) (k := 7 + s.a) a1 (by omega) (by omega)
  have n0 : (0 : Int) < s.cs.length := by have := hs.pos; omega
  have g1 : (s.hp ++ r)[3]? = some (.dct [(.inr "cells", .ref 1), (.inr "lefts", .ref 2), (.inr "at", .int s.a), (.inr "room", .int 0)]) := rfl
  have q1 : vDGet (.ref 3) (.str "at") (s.hp ++ r) = some (.int s.a, s.hp ++ r) := rfl
  have q2 : vDPut (.ref 3) (.str "at") (.int (s.a + 1)) (s.hp ++ r) = some (({ s with a := s.a + 1 } : S).hp ++ r) := rfl
  generalize hh : (({ s with a := s.a + 1 } : S).hp ++ r) = h1 at *
  have q3 : vDGet (.ref 3) (.str "cells") h1 = some (.ref 1, h1) := by subst hh; rfl
  have q4 : vDGet (.ref 3) (.str "lefts") h1 = some (.ref 2, h1) := by subst hh; rfl
  have q5 : vLen [.ref 1] h1 = some (.int s.cs.length, h1) := by
    subst hh
    show some (D.int ((s.cs.map D.int).length : Nat), _) = _
    rw [List.length_map]
  have q6 : vIx (.ref 2) (.int (s.a % s.cs.length)) h1 = some (.int s.left, h1) := by
    subst hh
    show (L2.atI (s.ls.map D.int) _).map _ = _
    rw [el]; rfl
  have q7 : vIx (.ref 1) (.int (s.a % s.cs.length)) h1 = some (.int s.cell, h1) := by
    subst hh
    show (L2.atI (s.cs.map D.int) _).map _ = _
    rw [ec]; rfl
  have m6 : ∀ x, mulOk x 2147483647 = true := fun x => mulOk_r (by decide) (by decide)
  by_cases hp0 : 0 < s.left
  · have q8 : vLPut (.ref 2) (.int (s.a % s.cs.length)) (.int (s.left / m)) h1 = some ((s.next m).hp ++ r) := by
      subst hh
      show (L2.ixN (s.ls.map D.int).length (s.a % s.cs.length)).map _ = _
      rw [S.place_eq hs, L2.ixN, if_pos (by omega), if_pos (by rw [List.length_map]; omega), Int.toNat_natCast]
      show some _ = some _
      unfold S.next
      rw [if_pos hp0]
      simp only [S.hp, List.map_set]
      rfl
    show dDrawB [some (.ref 3), some (.int m), none, none, none, none] (s.hp ++ r) = _
    simp only [dDrawB, sSeq, sSet, sPut, sRet, sIf, sPass, tsB, eOp2, eOpN, eCall, guard, aCons, aNil, eVar, eC, vInt_int, bind_ok, lft_some, ofR_ok, List.map_cons, List.map_nil, List.length_cons, List.length_nil, List.replicate, List.append_nil, List.nil_append, List.cons_append, List.getElem?_cons_zero, List.getElem?_cons_succ, List.set_cons_zero, List.set_cons_succ, q1, q2, q3, q4, q5, q6, q7, q8, vMod_ok n0, vAdd_int, vGt_int, decide_eq_true hp0, if_true, vFdiv_ok hm hm2, vMod_ok hm]
    unfold S.val
    rw [if_pos hp0]
  · have hn : (s.next m).hp ++ r = h1 := by
      subst hh
      unfold S.next
      rw [if_neg hp0]
    rw [hn]
    show dDrawB [some (.ref 3), some (.int m), none, none, none, none] (s.hp ++ r) = _
    simp only [dDrawB, sSeq, sSet, sPut, sRet, sIf, sPass, tsB, eOp2, eOpN, eCall, guard, aCons, aNil, eVar, eC, vInt_int, bind_ok, lft_some, ofR_ok, List.map_cons, List.map_nil, List.length_cons, List.length_nil, List.replicate, List.append_nil, List.nil_append, List.cons_append, List.getElem?_cons_zero, List.getElem?_cons_succ, List.set_cons_zero, List.set_cons_succ, q1, q2, q3, q4, q5, q6, q7, vMod_ok n0, vAdd_int, vGt_int, decide_eq_false hp0, Bool.false_eq_true, if_false, if_true, x1, x2, x3, vMul_ok (m6 _), vFdiv_ok (show (0 : Int) < 64 by decide) (by decide), vMod_ok hm]
    unfold S.val
    rw [if_neg hp0]
    rfl
theorem of_eq {s : S} {r : Hs} {k : Nat} {xs : List D} (hs : s.ok 1) (hc : Cl (s.hp ++ r)) (hk : 4 ≤ k) (hx : r[k - 4]? = some (.lst xs)) (h0 : 0 < xs.length) (h1 : xs.length < 1073741824) (hl : ∀ d ∈ xs, dLow (s.hp ++ r).length d = true) :
    ∃ d, xs[(s.val xs.length).toNat]? = some d ∧ dOf [.ref 3, .ref k] (s.hp ++ r) = .ok d ((s.next xs.length).hp ++ r) := by
  have v0 := s.val_lo (m := xs.length) (by omega)
  have v1 := s.val_hi (m := xs.length) (by omega)
  have hv : (s.val xs.length).toNat < xs.length := by omega
  refine ⟨xs[(s.val xs.length).toNat], List.getElem?_eq_getElem hv, ?_⟩
  have hg : ∀ s : S, (s.hp ++ r)[k]? = some (.lst xs) := fun s => by
    rw [List.getElem?_append_right (by simp [S.hp]; omega)]
    exact hx
  refine mFn_ret (r := []) ?_ (by simp [S.hp]) (S.cl s _ hc) (hl _ (List.getElem_mem hv))
  rw [List.append_nil]
  show dOfB [some (.ref 3), some (.ref k)] (s.hp ++ r) = _
  have q1 : vLen [.ref k] (s.hp ++ r) = some (.int xs.length, s.hp ++ r) := by
    simp only [vLen, seqOf, hg]
  have q2 : vIx (.ref k) (.int (s.val xs.length)) ((s.next xs.length).hp ++ r) = some (xs[(s.val xs.length).toNat], (s.next xs.length).hp ++ r) := by
    simp only [vIx, seqOf, hg, atI_int v0 v1, Option.map_some]
  simp only [dOfB, sRet, eOp2, eOpN, eCall, guard, aCons, aNil, eVar, eC, bind_ok, lft_some, ofR_ok, List.length_cons, List.length_nil, List.getElem?_cons_zero, List.getElem?_cons_succ, q1, draw_eq hs hc (show (0 : Int) < xs.length by omega) (by omega), q2, if_true]
def S.init (ns : List Int) : S := { cs := if ns = [] then [0] else ns, ls := (if ns = [] then [0] else ns).map fun c => if c ≥ 10 ^ 18 then c else 0, a := 0 }
theorem S.init_ok {ns : List Int} (h : ns.length ≤ 63) : (S.init ns).ok 1000000 := by
  unfold S.init
  refine ⟨by simp, ?_, ?_, Int.le_refl _, by show (0 : Int) + ((1000000 : Nat) : Int) ≤ 1000000000; decide⟩
  · show 0 < (if ns = [] then [0] else ns).length
    split
    · decide
    · rename_i h; exact List.length_pos_iff.mpr h
  · show (if ns = [] then [0] else ns).length ≤ 63
    split
    · decide
    · exact h
theorem okN_ints {n : Nat} {ns : List Int} : (ns.map D.int).all (okN n) = true := by
  rw [List.all_eq_true]
  intro d hd
  obtain ⟨i, _, rfl⟩ := List.mem_map.mp hd
  cases n <;> rfl
theorem begin_eq {ns : List Int} (h : ns.length ≤ 63) : dBegin [.sl (ns.map .int)] [] = .ok (.ref 3) (S.init ns).hp := by
  have e1 : vNe (.sl (ns.map D.int)) (.ref 0) [.lst []] = some (.bl (!(decide (ns = []))), [.lst []]) := by
    show (eqH (.sl (ns.map D.int)) (.ref 0) [.lst []]).map _ = _
    have : eqH (.sl (ns.map D.int)) (.ref 0) [.lst []] = some (decide (ns = [])) := by
      show (if ((ns.map D.int).all (okN 29) && ([] : List D).all (okN 29)) = true then some (eqA (ns.map D.int) []) else none) = _
      rw [okN_ints]
      cases ns <;> rfl
    rw [this]
    rfl
  have hb : dBeginB [some (.sl (ns.map .int)), none, none] [] = .ret (.ref 3) (S.init ns).hp := by
    have key : ∀ cs : List Int, cs.length ≤ 63 → eComp [2] (iSeq (eVar 1)) (.nm 2) tTrue (eIfM (tsB (eOp2 vGe (eVar 2) (eOp2 vPow (eC (.int 10)) (eC (.int 18))))) (eVar 2) (eC (.int 0))) [some (.sl (ns.map .int)), some (.ref 1), none] [.lst [], .lst (cs.map .int)]
        = .ok (.ref 2) [.lst [], .lst (cs.map .int), .lst ((cs.map fun c => if c ≥ 10 ^ 18 then c else 0).map .int)] := by
      intro cs hcs
      have hcl : Cl [.lst [], .lst (cs.map D.int)] := by
        show (List.all _ _) = true
        simp only [List.all_cons, List.all_nil, oLow, ints_low, dLows, Bool.and_true]
      rw [comp_run (it := .one (.lv 1)) (n := cs.length) (fun _ => true) (fun i => .int (if cs.getD i 0 ≥ 10 ^ 18 then cs.getD i 0 else 0)) rfl (by show (cs.map D.int).length = _; rw [List.length_map]) (by omega) ?_ ?_]
      · rw [filter_true]
        congr 1
        show [O.lst [], O.lst (cs.map D.int), O.lst _] = _
        congr 4
        apply List.ext_getElem
        · simp
        · intro i h1 h2
          simp only [List.getElem_map, List.getElem_range]
          have : i < cs.length := by simpa using h1
          rw [List.getD_eq_getElem?_getD, List.getElem?_eq_getElem this]
          rfl
      · intro i hi
        refine ⟨.int cs[i], [some (.sl (ns.map .int)), some (.ref 1), some (.int cs[i])], ?_, rfl, rfl, fun _ => ?_⟩
        · show some ((cs.map D.int)[i]?) = _
          rw [List.getElem?_map, List.getElem?_eq_getElem hi]
          rfl
        · have e2 : (eIfM (tsB (eOp2 vGe (eVar 2) (eOp2 vPow (eC (.int 10)) (eC (.int 18))))) (eVar 2) (eC (.int 0))) [some (.sl (ns.map .int)), some (.ref 1), some (.int cs[i])] [.lst [], .lst (cs.map D.int)] = .ok (.int (if cs[i] ≥ 10 ^ 18 then cs[i] else 0)) [.lst [], .lst (cs.map D.int)] := by
            have p : vPow (.int 10) (.int 18) [.lst [], .lst (cs.map D.int)] = some (.int (10 ^ 18), [.lst [], .lst (cs.map D.int)]) := by
              show (if (0 ≤ (18 : Int) ∧ (18 : Int) ≤ 1000000 ∧ (10 : Int).natAbs < 2 ^ 64) then some (D.int ((10 : Int) ^ (18 : Int).toNat), [O.lst [], O.lst (cs.map D.int)]) else none) = _
              rw [if_pos (by decide)]
              rfl
            have g : vGe (.int cs[i]) (.int (10 ^ 18)) [.lst [], .lst (cs.map D.int)] = some (.bl (decide (cs[i] ≥ 10 ^ 18)), [.lst [], .lst (cs.map D.int)]) := rfl
            simp only [eIfM, tsB, eOp2, eVar, eC, bind_ok, lft_some, List.getElem?_cons_zero, List.getElem?_cons_succ, p, g]
            by_cases q : cs[i] ≥ 10 ^ 18
            · rw [decide_eq_true q, if_pos rfl, if_pos q]
            · rw [decide_eq_false q, if_neg (by decide), if_neg q]
          rw [e2, gc_low0 rfl hcl rfl, List.getD_eq_getElem?_getD, List.getElem?_eq_getElem hi]
          rfl
      · show some ((cs.map D.int)[cs.length]?) = _
        rw [List.getElem?_eq_none (by simp)]
    have v0 : vLst [] [] = some (.ref 0, [.lst []]) := rfl
    by_cases hn : ns = []
    · have k := key [0] (by decide)
      simp only [dBeginB, sSeq, sSet, sRet, eIfM, tsB, eOp2, eOpN, aCons, aNil, eVar, eC, bind_ok, lft_some, ofR_ok, List.getElem?_cons_zero, List.getElem?_cons_succ, List.set_cons_zero, List.set_cons_succ, v0, e1, decide_eq_true hn, Bool.not_true, Bool.false_eq_true, if_false]
      have v1 : vLst [.int 0] [.lst []] = some (.ref 1, [.lst [], .lst [.int 0]]) := rfl
      have k2 : eComp [2] (iSeq (eVar 1)) (.nm 2) tTrue (eIfM (tsB (eOp2 vGe (eVar 2) (eOp2 vPow (eC (.int 10)) (eC (.int 18))))) (eVar 2) (eC (.int 0))) [some (.sl (ns.map .int)), some (.ref 1), none] [.lst [], .lst [.int 0]] = _ := k
      simp only [v1, lft_some, ofR_ok, List.set_cons_zero, List.set_cons_succ, eDict, ePairs, eVar, eC, bind_ok, List.getElem?_cons_zero, List.getElem?_cons_succ]
      rw [k2]
      subst hn
      rfl
    · have k := key ns h
      have v1 : vList [.sl (ns.map D.int)] [.lst []] = some (.ref 1, [.lst [], .lst (ns.map D.int)]) := rfl
      simp only [dBeginB, sSeq, sSet, sRet, eIfM, tsB, eOp2, eOpN, aCons, aNil, eVar, eC, bind_ok, lft_some, ofR_ok, List.getElem?_cons_zero, List.getElem?_cons_succ, List.set_cons_zero, List.set_cons_succ, v0, v1, e1, decide_eq_false hn, Bool.not_false, if_true, eDict, ePairs]
      rw [k]
      simp only [S.init, if_neg hn]
      rfl
  unfold dBegin mFn
  show gcR 0 (outR (dBeginB [some (.sl (ns.map .int)), none, none] [])) = _
  rw [hb]
  rfl
end DS

set_option Elab.async false
set_option linter.all false
set_option maxRecDepth 100000
set_option maxHeartbeats 4000000
/-! DSM: loops over known items; heaps s.hp ++ r. -/
namespace DS
open PySem
/-- the loop over known items -/
def forL (g : MG) (body : MS) : List D → En → Hs → RS
  | [], e, h => .nx e h
  | d :: ds, e, h => match g d e h with
    | .ok e1 h1 => match body e1 h1 with
      | .nx e2 h2 => forL g body ds e2 h2
      | .ct e2 h2 => forL g body ds e2 h2
      | .bk e2 h2 => .nx e2 h2
      | r => r
    | _ => .bad
theorem forGo_L {it : Iter} {g : MG} {body : MS} {xs : List D} (hget : ∀ i h, i ≤ xs.length → it.get i h = some xs[i]?) : ∀ (k i : Nat) (e : En) (h : Hs), i + k = xs.length → forGo it g body k i e h = forL g body (xs.drop i) e h
  | 0, i, e, h, hi => by
    have : i = xs.length := by omega
    subst this
    unfold forGo
    rw [hget _ _ (Nat.le_refl _), List.getElem?_eq_none (Nat.le_refl _), List.drop_length]
    rfl
  | k + 1, i, e, h, hi => by
    have hlt : i < xs.length := by omega
    unfold forGo
    rw [hget _ _ (Nat.le_of_lt hlt), List.getElem?_eq_getElem hlt, List.drop_eq_getElem_cons hlt]
    show (match g xs[i] e h with | _ => _) = _
    unfold forL
    cases g xs[i] e h with
    | ok e1 h1 =>
      show (match body e1 h1 with | _ => _) = (match body e1 h1 with | _ => _)
      cases body e1 h1 with
      | nx e2 h2 => exact forGo_L hget k (i + 1) e2 h2 (by omega)
      | ct e2 h2 => exact forGo_L hget k (i + 1) e2 h2 (by omega)
      | bk e2 h2 => rfl
      | ret d h2 => rfl
      | exc x e2 h2 => rfl
      | bad => rfl
    | exc x h1 => rfl
    | bad => rfl
theorem for_L {mi : MI} {g : MG} {body : MS} {e : En} {h h1 : Hs} {it : Iter} (xs : List D) (hm : mi e h = .ok it h1) (hl : it.len h1 = xs.length) (hget : ∀ i h, i ≤ xs.length → it.get i h = some xs[i]?) : sFor mi g body e h = forL g body xs e h1 := by
  unfold sFor
  rw [hm]
  show forGo it g body (it.len h1) 0 e h1 = _
  rw [hl, forGo_L hget xs.length 0 e h1 (by omega), List.drop_zero]
def intsD (lo : Int) (n : Nat) : List D := (List.range n).map fun (i : Nat) => D.int (lo + i)
theorem intsD_len (lo : Int) (n : Nat) : (intsD lo n).length = n := by simp [intsD]
theorem intsD_get {lo : Int} {n i : Nat} (hi : i < n) : (intsD lo n)[i]? = some (.int (lo + i)) := by
  simp [intsD, hi]
theorem for_rngL {mi : MI} {g : MG} {body : MS} {e : En} {h h1 : Hs} {lo : Int} {n : Nat} (hm : mi e h = .ok (.rng lo n) h1) : sFor mi g body e h = forL g body (intsD lo n) e h1 := by
  refine for_L (intsD lo n) hm (intsD_len lo n).symm fun i h hi => ?_
  rw [intsD_len] at hi
  by_cases hlt : i < n
  · rw [intsD_get hlt, rng_get hlt]
  · have : i = n := by omega
    subst this
    rw [rng_end, List.getElem?_eq_none (by rw [intsD_len]; exact Nat.le_refl _)]
theorem for_tupL {mi : MI} {g : MG} {body : MS} {e : En} {h h1 : Hs} {xs : List D} (hm : mi e h = .ok (.one (.st xs)) h1) : sFor mi g body e h = forL g body xs e h1 :=
  for_L xs hm rfl fun _ _ _ => rfl
def enumD (xs : List D) (i : Nat) : List D := match xs with
  | [] => []
  | x :: r => .tup [.int i, x] :: enumD r (i + 1)
theorem enumD_len : ∀ (xs : List D) (i : Nat), (enumD xs i).length = xs.length
  | [], _ => rfl
  | _ :: r, i => by rw [enumD, List.length_cons, List.length_cons, enumD_len r]
theorem enumD_get : ∀ (xs : List D) (i j : Nat), (enumD xs i)[j]? = xs[j]?.map fun x => .tup [.int ((i + j : Nat) : Int), x]
  | [], _, _ => rfl
  | _ :: r, i, 0 => rfl
  | _ :: r, i, j + 1 => by
    rw [enumD, List.getElem?_cons_succ, List.getElem?_cons_succ, enumD_get r (i + 1) j]
    congr 1
    funext x
    have : i + 1 + j = i + (j + 1) := by omega
    rw [this]
theorem for_enumL {mi : MI} {g : MG} {body : MS} {e : En} {h h1 : Hs} {xs : List D} (hm : mi e h = .ok (.enum (.st xs)) h1) : sFor mi g body e h = forL g body (enumD xs 0) e h1 := by
  refine for_L (enumD xs 0) hm (by rw [enumD_len]; rfl) fun i h hi => ?_
  rw [enumD_len] at hi
  rw [enumD_get, Nat.zero_add]
  show (match some xs[i]? with | some (some d) => _ | some none => _ | none => _) = _
  cases q : xs[i]? with
  | some d => rfl
  | none =>
    have : xs.length ≤ i := List.getElem?_eq_none_iff.mp q
    show (if (Src.st xs).len h = i then _ else _) = _
    have e : (Src.st xs).len h = i := show xs.length = i by omega
    rw [if_pos e]
    rfl
theorem forL_cons {g : MG} {body : MS} {d : D} {ds : List D} {e e1 e2 : En} {h h1 h2 : Hs} (hg : g d e h = .ok e1 h1) (hb : body e1 h1 = .nx e2 h2) : forL g body (d :: ds) e h = forL g body ds e2 h2 := by
  conv => lhs; unfold forL
  rw [hg]
  show (match body e1 h1 with | _ => _) = _
  rw [hb]
/-- a loop as a fold -/
theorem forL_fold {α σ : Type} {g : MG} {body : MS} (E : σ → En) (H : σ → Hs) (f : α → D) (step : σ → α → σ) (P : σ → Prop) : ∀ (xs : List α) (st : σ), P st →
    (∀ st x, P st → x ∈ xs → P (step st x) ∧ ∃ e1 h1, g (f x) (E st) (H st) = .ok e1 h1 ∧ body e1 h1 = .nx (E (step st x)) (H (step st x))) →
    forL g body (xs.map f) (E st) (H st) = .nx (E (xs.foldl step st)) (H (xs.foldl step st)) ∧ P (xs.foldl step st)
  | [], st, hp, _ => ⟨rfl, hp⟩
  | x :: xs, st, hp, hs => by
    obtain ⟨hp2, e1, h1, q1, q2⟩ := hs st x hp List.mem_cons_self
    rw [List.map_cons, forL_cons q1 q2]
    exact forL_fold E H f step P xs (step st x) hp2 fun st y h1 h2 => hs st y h1 (List.mem_cons_of_mem _ h2)
/-- a loop that leaves the state -/
theorem forL_same {α : Type} {g : MG} {body : MS} {f : α → D} {e : En} {h : Hs} : ∀ (xs : List α), (∀ x ∈ xs, ∃ e1 h1, g (f x) e h = .ok e1 h1 ∧ body e1 h1 = .nx e h) → forL g body (xs.map f) e h = .nx e h
  | [], _ => rfl
  | x :: xs, hs => by
    obtain ⟨e1, h1, q1, q2⟩ := hs x List.mem_cons_self
    rw [List.map_cons, forL_cons q1 q2]
    exact forL_same xs fun y hy => hs y (List.mem_cons_of_mem _ hy)
theorem intsD_map (lo : Int) (n : Nat) : intsD lo n = (List.range n).map fun (i : Nat) => D.int (lo + i) := rfl
theorem ints0 (n : Nat) : intsD 0 n = (List.range n).map fun (i : Nat) => D.int (i : Int) := by
  unfold intsD
  apply List.map_congr_left
  intro a _
  rw [Int.zero_add]
/-! ### tidying -/
theorem tidy_nx0 {clr : List Nat} {m : MS} {e e1 : En} {h h1 : Hs} (hm : m e h = .nx e1 h1) (hl : h1.length = h.length) (hc : Cl h1) (he : eLow h.length (wipeE e1 clr) = true) : sTidy clr m e h = .nx (wipeE e1 clr) h1 :=
  tidy_nx (r := []) (by rw [List.append_nil]; exact hm) hl hc he
theorem low0 {d : D} {n : Nat} (h : dLow 0 d = true) : dLow n d = true := dLow_mono (Nat.zero_le _) h
theorem eLow_nil {n : Nat} : eLow n [] = true := rfl
theorem eLow_none {n : Nat} {e : En} : eLow n (none :: e) = eLow n e := by
  show (true && eLow n e) = _
  rw [Bool.true_and]
theorem eLow_some {n : Nat} {d : D} {e : En} : eLow n (some d :: e) = (dLow n d && eLow n e) := rfl
/-! ### items -/
theorem ix_tup {xs : List D} {i : Nat} {d : D} {h : Hs} (hx : xs[i]? = some d) : vIx (.tup xs) (.int (i : Int)) h = some (d, h) := by
  obtain ⟨hi, rfl⟩ := List.getElem?_eq_some_iff.mp hx
  show (L2.atI xs (i : Int)).map _ = _
  rw [atI_nat hi]
  rfl
theorem ix_tupI {xs : List D} {i : Int} {d : D} {h : Hs} (h0 : 0 ≤ i) (hx : xs[i.toNat]? = some d) : vIx (.tup xs) (.int i) h = some (d, h) := by
  have e : i = (i.toNat : Int) := by omega
  have k := ix_tup (h := h) hx
  rw [← e] at k
  exact k
theorem ix_ref {xs : List D} {n i : Nat} {d : D} {h : Hs} (hn : h[n]? = some (.lst xs)) (hx : xs[i]? = some d) : vIx (.ref n) (.int (i : Int)) h = some (d, h) := by
  obtain ⟨hi, rfl⟩ := List.getElem?_eq_some_iff.mp hx
  have : seqOf (.ref n) h = some xs := by
    simp only [seqOf, hn]
  show (match seqOf (.ref n) h, D.int (i : Int) with | some xs, .int i => (L2.atI xs i).map fun x => (x, h) | _, _ => none) = _
  rw [this]
  show (L2.atI xs (i : Int)).map _ = _
  rw [atI_nat hi]
  rfl
theorem ix_refI {xs : List D} {n : Nat} {i : Int} {d : D} {h : Hs} (hn : h[n]? = some (.lst xs)) (h0 : 0 ≤ i) (hx : xs[i.toNat]? = some d) : vIx (.ref n) (.int i) h = some (d, h) := by
  have e : i = (i.toNat : Int) := by omega
  have k := ix_ref (h := h) hn hx
  rw [← e] at k
  exact k
theorem sz_le {n : Nat} (h : n ≤ 100000) : n ≤ sizeLine := Nat.le_trans h (by decide)
theorem vTup_ok {ds : List D} {h : Hs} (hl : ds.length ≤ 100000) : vTup ds h = some (.tup ds, h) := by
  show (if ds.length ≤ sizeLine then _ else _) = _
  rw [if_pos (sz_le hl)]
theorem vLst_ok {ds : List D} {h : Hs} (hl : ds.length ≤ 100000) : vLst ds h = some (.ref h.length, h ++ [.lst ds]) := by
  show (if ds.length ≤ sizeLine then _ else _) = _
  rw [if_pos (sz_le hl)]
theorem vLst_hp {s : S} {r : Hs} {ds : List D} (hl : ds.length ≤ 100000) : vLst ds (s.hp ++ r) = some (.ref (4 + r.length), s.hp ++ (r ++ [.lst ds])) := by
  rw [vLst_ok hl, List.append_assoc, List.length_append]
  rfl
theorem append_ok {n : Nat} {xs : List D} {d : D} {h : Hs} (hn : h[n]? = some (.lst xs)) (hl : xs.length < 100000) : vAppend (.ref n) [d] h = some (.non, h.set n (.lst (xs ++ [d]))) := by
  simp only [vAppend, hn]
  rw [if_pos (Nat.lt_of_lt_of_le hl (by decide))]
theorem isL_ref {n : Nat} {xs : List D} {h : Hs} (hn : h[n]? = some (.lst xs)) : isL (.ref n) h = true := by
  simp only [isL, listOf1, hn, Option.bind_some, lsO, Option.isSome_some]
theorem hp_get {s : S} {r : Hs} {k : Nat} : (s.hp ++ r)[k + 4]? = r[k]? := by
  rw [List.getElem?_append_right (by simp [S.hp])]
  rfl
end DS
namespace DS
open PySem
theorem forL_foldI {α σ : Type} {g : MG} {body : MS} (E : σ → En) (H : σ → Hs) (f : α → D) (step : σ → α → σ) (P : Nat → σ → Prop) (xs : List α) (st : σ) (h0 : P 0 st)
    (hs : ∀ i st x, xs[i]? = some x → P i st → P (i + 1) (step st x) ∧ ∃ e1 h1, g (f x) (E st) (H st) = .ok e1 h1 ∧ body e1 h1 = .nx (E (step st x)) (H (step st x))) :
    forL g body (xs.map f) (E st) (H st) = .nx (E (xs.foldl step st)) (H (xs.foldl step st)) ∧ P xs.length (xs.foldl step st) := by
  have aux : ∀ (ys pre : List α) (st : σ), xs = pre ++ ys → P pre.length st → forL g body (ys.map f) (E st) (H st) = .nx (E (ys.foldl step st)) (H (ys.foldl step st)) ∧ P xs.length (ys.foldl step st) := by
    intro ys
    induction ys with
    | nil =>
      intro pre st e hp
      rw [List.append_nil] at e
      subst e
      exact ⟨rfl, hp⟩
    | cons y ys ih =>
      intro pre st e hp
      obtain ⟨hp2, e1, h1, q1, q2⟩ := hs pre.length st y (by rw [e, List.getElem?_append_right (Nat.le_refl _)]; simp) hp
      rw [List.map_cons, forL_cons q1 q2]
      exact ih (pre ++ [y]) (step st y) (by rw [e]; simp) (by rw [List.length_append]; exact hp2)
  exact aux xs [] st rfl h0
/-! comprehensions over known items -/
theorem cpGo_L {it : Iter} {g : Tgt} {t : MT} {e : ME} {env : En} {h : Hs} {α : Type} {xs : List α} {f : α → D} {T : α → Bool} {Y : α → D} (hget : ∀ i, i ≤ xs.length → it.get i h = some (xs.map f)[i]?) (hn : xs.length ≤ 100000)
    (hs : ∀ x ∈ xs, ∃ e1, g.put (f x) env = some e1 ∧ t e1 h = .ok (T x) h ∧ (T x = true → gcR h.length (e e1 h) = .ok (Y x) h)) :
    ∀ (k i : Nat) (acc : List D), i + k = xs.length → acc.length ≤ i → cpGo it g t e env k i acc h = .ok (acc ++ ((xs.drop i).filter T).map Y) h
  | 0, i, acc, hi, ha => by
    have : i = xs.length := by omega
    subst this
    unfold cpGo
    rw [hget _ (Nat.le_refl _), List.getElem?_eq_none (by simp), List.drop_length]
    simp
  | k + 1, i, acc, hi, ha => by
    have hlt : i < xs.length := by omega
    obtain ⟨e1, q2, q3, q4⟩ := hs xs[i] (List.getElem_mem hlt)
    unfold cpGo
    rw [hget _ (Nat.le_of_lt hlt), List.getElem?_map, List.getElem?_eq_getElem hlt, List.drop_eq_getElem_cons hlt]
    simp only [Option.map_some, q2, q3, R.nox, bind_ok]
    cases q : T xs[i] with
    | true =>
      simp only [if_true, q4 q, R.nox, bind_ok]
      have : acc.length < sizeLine := Nat.lt_of_le_of_lt (show acc.length ≤ 100000 by omega) (by decide)
      rw [if_pos this, cpGo_L hget hn hs k (i + 1) (acc ++ [Y xs[i]]) (by omega) (by simp only [List.length_append, List.length_cons, List.length_nil]; omega)]
      rw [List.filter_cons_of_pos q, List.map_cons, List.append_assoc]
      rfl
    | false =>
      rw [if_neg (by decide), cpGo_L hget hn hs k (i + 1) acc (by omega) (by omega), List.filter_cons_of_neg (by rw [q]; decide)]
theorem comp_L {vs : List Nat} {mi : MI} {g : Tgt} {t : MT} {e : ME} {env : En} {h : Hs} {it : Iter} {α : Type} (xs : List α) (f : α → D) (T : α → Bool) (Y : α → D) (hm : mi env h = .ok it h) (hl : it.len h = xs.length) (hget : ∀ i, i ≤ xs.length → it.get i h = some (xs.map f)[i]?) (hn : xs.length ≤ 100000)
    (hs : ∀ x ∈ xs, ∃ e1, g.put (f x) (wipeE env vs) = some e1 ∧ t e1 h = .ok (T x) h ∧ (T x = true → gcR h.length (e e1 h) = .ok (Y x) h)) :
    eComp vs mi g t e env h = .ok (.ref h.length) (h ++ [.lst ((xs.filter T).map Y)]) := by
  unfold eComp
  rw [hm]
  show (cpGo it g t e (wipeE env vs) (it.len h) 0 [] h).bind _ = _
  rw [hl, cpGo_L hget hn hs xs.length 0 [] (by omega) (Nat.le_refl _)]
  simp only [bind_ok, List.nil_append, List.drop_zero]
theorem comp_tup {vs : List Nat} {mi : MI} {g : Tgt} {t : MT} {e : ME} {env : En} {h : Hs} {α : Type} (xs : List α) (f : α → D) (T : α → Bool) (Y : α → D) (hm : mi env h = .ok (.one (.st (xs.map f))) h) (hn : xs.length ≤ 100000)
    (hs : ∀ x ∈ xs, ∃ e1, g.put (f x) (wipeE env vs) = some e1 ∧ t e1 h = .ok (T x) h ∧ (T x = true → gcR h.length (e e1 h) = .ok (Y x) h)) :
    eComp vs mi g t e env h = .ok (.ref h.length) (h ++ [.lst ((xs.filter T).map Y)]) :=
  comp_L xs f T Y hm (by show (xs.map f).length = _; simp) (fun _ _ => rfl) hn hs
theorem comp_rng0 {vs : List Nat} {mi : MI} {g : Tgt} {t : MT} {e : ME} {env : En} {h : Hs} {n : Nat} (T : Nat → Bool) (Y : Nat → D) (hm : mi env h = .ok (.rng 0 n) h) (hn : n ≤ 100000)
    (hs : ∀ x, x < n → ∃ e1, g.put (.int (x : Int)) (wipeE env vs) = some e1 ∧ t e1 h = .ok (T x) h ∧ (T x = true → gcR h.length (e e1 h) = .ok (Y x) h)) :
    eComp vs mi g t e env h = .ok (.ref h.length) (h ++ [.lst (((List.range n).filter T).map Y)]) :=
  comp_L (List.range n) (fun x => .int (x : Int)) T Y hm (by simp [Iter.len]) (fun i hi => by
    rw [List.length_range] at hi
    by_cases hlt : i < n
    · rw [rng_get hlt, Int.zero_add]; simp [hlt]
    · have : i = n := by omega
      subst this
      rw [rng_end]; simp) (by simpa using hn) fun x hx => hs x (List.mem_range.mp hx)
theorem comp_lst {vs : List Nat} {mi : MI} {g : Tgt} {t : MT} {e : ME} {env : En} {h : Hs} {n : Nat} {α : Type} (xs : List α) (f : α → D) (T : α → Bool) (Y : α → D) (hm : mi env h = .ok (.one (.lv n)) h) (hg : h[n]? = some (.lst (xs.map f))) (hn : xs.length ≤ 100000)
    (hs : ∀ x ∈ xs, ∃ e1, g.put (f x) (wipeE env vs) = some e1 ∧ t e1 h = .ok (T x) h ∧ (T x = true → gcR h.length (e e1 h) = .ok (Y x) h)) :
    eComp vs mi g t e env h = .ok (.ref h.length) (h ++ [.lst ((xs.filter T).map Y)]) :=
  comp_L xs f T Y hm (by simp only [Iter.len, Src.len, hg, Option.bind_some, lsO]; simp) (fun i _ => by simp only [Iter.get, Src.get, hg, Option.bind_some, lsO, Option.map_some]) hn hs
theorem filter_all {α : Type} (xs : List α) : xs.filter (fun _ => true) = xs := List.filter_eq_self.mpr fun _ _ => rfl
theorem gc_pure {h : Hs} {d : D} {r : R D} (hr : r = .ok d h) (hc : Cl h) (hd : dLow h.length d = true) : gcR h.length r = .ok d h := by
  rw [hr]; exact gc_low0 rfl hc hd
/-! heaps h ++ r -/
theorem app_get {h r : Hs} {k : Nat} : (h ++ r)[h.length + k]? = r[k]? := by
  rw [List.getElem?_append_right (Nat.le_add_right _ _), Nat.add_sub_cancel_left]
theorem app_get0 {h r : Hs} : (h ++ r)[h.length]? = r[0]? := app_get (k := 0)
theorem app_set {h r : Hs} {k : Nat} {o : O} : (h ++ r).set (h.length + k) o = h ++ r.set k o := by
  rw [List.set_append_right _ _ (Nat.le_add_right _ _), Nat.add_sub_cancel_left]
theorem app_set0 {h r : Hs} {o : O} : (h ++ r).set h.length o = h ++ r.set 0 o := app_set (k := 0)
theorem Cl.app0 {h r : Hs} (hc : Cl h) (hr : r.all (oLow 0) = true) : Cl (h ++ r) := by
  unfold Cl at *
  rw [List.all_append, Bool.and_eq_true, List.length_append]
  constructor
  · rw [List.all_eq_true] at hc ⊢
    exact fun o ho => oLow_mono (Nat.le_add_right _ _) (hc o ho)
  · rw [List.all_eq_true] at hr ⊢
    exact fun o ho => oLow_mono (Nat.zero_le _) (hr o ho)
theorem vLst_app {h r : Hs} {ds : List D} (hl : ds.length ≤ 100000) : vLst ds (h ++ r) = some (.ref (h.length + r.length), h ++ (r ++ [.lst ds])) := by
  rw [vLst_ok hl, List.append_assoc, List.length_append]
theorem vLst_nil {h : Hs} : vLst [] h = some (.ref h.length, h ++ [.lst []]) := vLst_ok (by decide)
theorem oLow_ints {n : Nat} {ns : List Int} : oLow n (.lst (ns.map .int)) = true := ints_low
/-! equality -/
mutual
theorem eqD_refl : ∀ (n : Nat) (d : D), okN n d = true → eqD d d = true
  | _, .non, _ => rfl
  | _, .bl b, _ => by simp [eqD]
  | _, .int b, _ => by simp [eqD]
  | _, .str b, _ => by simp [eqD]
  | n, .ref k, h => by cases n <;> cases h
  | n, .sl k, h => by cases n <;> cases h
  | n, .tup xs, h => by
    cases n with
    | zero => cases h
    | succ n => exact eqA_refl n xs h
theorem eqA_refl : ∀ (n : Nat) (xs : List D), xs.all (okN n) = true → eqA xs xs = true
  | _, [], _ => rfl
  | n, x :: xs, h => by
    rw [List.all_cons, Bool.and_eq_true] at h
    show (eqD x x && eqA xs xs) = true
    rw [eqD_refl n x h.1, eqA_refl n xs h.2]; rfl
end
theorem eqH_same {d : D} {h : Hs} (hd : okN 30 d = true) : eqH d d h = some true := by
  have l : listOf1 d h = none := by cases d <;> first | rfl | cases hd
  unfold eqH
  rw [l]
  simp only
  rw [eqD_refl 30 d hd, hd]
  simp
theorem vNe_same {d : D} {h : Hs} (hd : okN 30 d = true) : vNe d d h = some (.bl false, h) := by
  unfold vNe; rw [eqH_same hd]; rfl
theorem vEq_same {d : D} {h : Hs} (hd : okN 30 d = true) : vEq d d h = some (.bl true, h) := by
  unfold vEq; rw [eqH_same hd]; rfl
theorem okN_int {n : Nat} {i : Int} : okN n (.int i) = true := by cases n <;> rfl
theorem ok_ints {ns : List Int} : okN 30 (.tup (ns.map .int)) = true := okN_ints
theorem ne_nil {n : Nat} {xs : List D} {h : Hs} (hn : h[n]? = some (.lst xs)) (hx : xs.all (okN 29) = true) : vNe (.ref n) (.ref h.length) (h ++ [.lst []]) = some (.bl (!xs.isEmpty), h ++ [.lst []]) := by
  have l1 : listOf1 (.ref n) (h ++ [.lst []]) = some xs := by
    show ((h ++ [.lst []])[n]?).bind lsO = _
    rw [List.getElem?_append_left (List.getElem?_eq_some_iff.mp hn).1, hn]
    rfl
  have l2 : listOf1 (.ref h.length) (h ++ [.lst []]) = some [] := by
    show ((h ++ [.lst []])[h.length]?).bind lsO = _
    rw [app_get0]; rfl
  unfold vNe eqH
  rw [l1, l2]
  simp only
  rw [hx]
  simp only [List.all_nil, Bool.and_true, if_true, Option.map_some]
  cases xs <;> rfl
theorem tuple_ref {n : Nat} {xs : List D} {h : Hs} (hn : h[n]? = some (.lst xs)) : vTuple [.ref n] h = some (.tup xs, h) := by
  simp only [vTuple, seqOf, hn]
theorem in_ints {c : Int} {ns : List Int} {h : Hs} : vIn (.int c) (.tup (ns.map .int)) h = some (.bl (ns.contains c), h) := by
  have f : (ns.map D.int).all flatD = true := by
    rw [List.all_eq_true]; intro d hd; obtain ⟨i, _, rfl⟩ := List.mem_map.mp hd; rfl
  have e : inD (.int c) (ns.map D.int) = ns.contains c := by
    unfold inD
    induction ns with
    | nil => rfl
    | cons n r ih =>
      have f2 : (r.map D.int).all flatD = true := by
        rw [List.map_cons, List.all_cons, Bool.and_eq_true] at f; exact f.2
      rw [List.map_cons, List.any_cons, ih f2, List.contains_cons]
      show ((n == c) || _) = _
      have e3 : (n == c) = (c == n) := by
        by_cases q : n = c
        · rw [q]
        · rw [beq_eq_false_iff_ne.mpr q, beq_eq_false_iff_ne.mpr (Ne.symm q)]
      rw [e3]
  unfold vIn inH
  show (if (true && (ns.map D.int).all flatD) = true then some (inD (.int c) (ns.map D.int)) else none).map _ = _
  rw [f, e]; rfl
theorem foldl_snoc {α β : Type} (f : α → β) : ∀ (xs : List α) (acc : List β), xs.foldl (fun a x => a ++ [f x]) acc = acc ++ xs.map f
  | [], acc => by simp
  | x :: xs, acc => by rw [List.foldl_cons, foldl_snoc f xs, List.map_cons, List.append_assoc]; rfl
theorem foldl_filt {α β : Type} (t : α → Bool) (f : α → β) : ∀ (xs : List α) (acc : List β), xs.foldl (fun a x => if t x = true then a ++ [f x] else a) acc = acc ++ (xs.filter t).map f
  | [], acc => by simp
  | x :: xs, acc => by
    rw [List.foldl_cons, foldl_filt t f xs]
    cases q : t x with
    | true => rw [List.filter_cons_of_pos q, if_pos rfl, List.map_cons, List.append_assoc]; rfl
    | false => rw [List.filter_cons_of_neg (by rw [q]; decide), if_neg (by decide)]
end DS

set_option Elab.async false
set_option linter.all false
set_option maxRecDepth 100000
set_option maxHeartbeats 4000000
/-! DSN: classes of the program: fields, methods, making. -/
namespace DS
open PySem PySem.Spec PyProof.Rows L2
/-! ### meanings -/
def putFD (f : Str) (v : D) : List (Str × D) → List (Str × D)
  | [] => [(f, v)]
  | (g, x) :: r => if g = f then (g, v) :: r else (g, x) :: putFD f v r
def vFld (cs : List Nat) (f : Str) : O1
  | .ref n, h => match h[n]? with
    | some (.ins c fs) => if cs.contains c = true then (fs.lookup f).map fun v => (v, h) else none
    | _ => none
  | _, _ => none
def vSetF (cs : List Nat) (f : Str) (x y : D) (h : Hs) : Option Hs :=
  match x with
  | .ref n => match h[n]? with
    | some (.ins c fs) => if (cs.contains c && Nat.ble fs.length 999) = true then some (h.set n (.ins c (putFD f y fs))) else none
    | _ => none
  | _ => none
def sFldM (cs : List Nat) (f : Str) (o v : ME) : MS := fun env h => ofR env (v env h) fun y h1 => ofR env (o env h1) fun x h2 => match vSetF cs f x y h2 with
  | some h3 => .nx env h3
  | none => .bad
def gFld (cs : List Nat) (f : Str) (o : ME) : MG := fun d env h => (o env h).bind fun x h2 => match vSetF cs f x d h2 with
  | some h3 => .ok env h3
  | none => .bad
def isC (c : Nat) (m : Str) (x : D) (h : Hs) : Bool := match x with
  | .ref n => match h[n]? with
    | some (.ins c' fs) => Nat.beq c' c && (fs.lookup m).isNone
    | _ => false
  | _ => false
def eMethC (c : Nat) (m : Str) (n : Nat) (mf : MF) (a : ME) (b : MA) : ME := fun env h => (a env h).bind fun x h1 => if isC c m x h1 = true then (b env h1).bind fun ds h2 => guard n mf (x :: ds) h2 else .bad
def eMake (c : Nat) (n : Nat) (mf : MF) (a : MA) : ME := fun env h => (a env h).bind fun ds h1 => (guard n mf (.ref h1.length :: ds) (h1 ++ [.ins c []])).bind fun r h2 => match r with
  | .non => .ok (.ref h1.length) h2
  | _ => .bad
/-! ### facts -/
/-- the classes of cs have plain instances without the attribute f of their own -/
def Flds (K : PySem.W.Frag) (cl : CW) (cs : List Nat) (f : Str) : Prop := ∀ c ∈ cs, Cls K (cl c) ∧ NoAttr K (cl c) f
def MthS (gd : Bool) (P : Program) (w : World) (K : PySem.W.Frag) (mg : Str → Option Value) (base : Heap) (cl : CW) (k c : Nat) (m : Str) (n : Nat) (mf : MF) : Prop :=
  ∃ f fd ps, FnG gd P w K mg base k f fd ps (spM K cl n mf) ∧ Cls K (cl c) ∧ Meth K (cl c) m f ∧ Binds K fd ps []
def MakS (gd : Bool) (P : Program) (w : World) (K : PySem.W.Frag) (mg : Str → Option Value) (base : Heap) (cl : CW) (k c : Nat) (x : Str) (n : Nat) (mf : MF) : Prop :=
  ∃ f fd ps, FnG gd P w K mg base k f fd ps (spM K cl n mf) ∧ mg x = some (.ref (cl c)) ∧ Mk K (cl c) f ∧ Binds K fd ps []
def MthAt (K : PySem.W.Frag) (cl : CW) (c : Nat) (m qual : Str) (st : Stmt) (ps : List Str) : Prop := ∃ f fd, Fun K m qual st f fd ∧ Cls K (cl c) ∧ Meth K (cl c) m f ∧ Binds K fd ps []
def MakAt (K : PySem.W.Frag) (mg : Str → Option Value) (cl : CW) (c : Nat) (x qual : Str) (st : Stmt) (ps : List Str) : Prop := ∃ f fd, Fun K "__init__" qual st f fd ∧ mg x = some (.ref (cl c)) ∧ Mk K (cl c) f ∧ Binds K fd ps []
section
variable {P : Program} {w : World} {K : PySem.W.Frag} {mg : Str → Option Value} {base : Heap} {cl : CW}
theorem MthS.mk {c : Nat} {m qual : Str} {st : Stmt} {N ps : List Str} {k n : Nat} {b : MS} {mf : MF} (D : MthAt K cl c m qual st ps) (S : FnScope N ps (defScope st))
    (hbody : ∀ (f : Addr) (cdv : Value) (A : Around) (outer : List Env) (s : Shared) (H : Hp) (E : XK), Rm gd k (A.deeper (envOfC qual (defScope st) s.heap.objs.size f cdv)) →
      SB (cxOf (L2.CX P w) P w K mg base N qual (defScope st) f cdv A outer s H E) cl (fun c d _ H' => E c d H') (defBody st) b)
    (hn : ps.length = n := by rfl) (hf : mFn N.length b = mf := by rfl) : MthS gd P w K mg base cl (k + 1) c m n mf := by
  subst hn hf
  obtain ⟨f, fd, F, hc, hm, hb⟩ := D
  exact ⟨f, fd, ps, fn_ok F S fun cdv A outer s H E hr => hbody f cdv A outer s H E hr, hc, hm, hb⟩
theorem MakS.mk {c : Nat} {x qual : Str} {st : Stmt} {N ps : List Str} {k n : Nat} {b : MS} {mf : MF} (D : MakAt K mg cl c x qual st ps) (S : FnScope N ps (defScope st))
    (hbody : ∀ (f : Addr) (cdv : Value) (A : Around) (outer : List Env) (s : Shared) (H : Hp) (E : XK), Rm gd k (A.deeper (envOfC qual (defScope st) s.heap.objs.size f cdv)) →
      SB (cxOf (L2.CX P w) P w K mg base N qual (defScope st) f cdv A outer s H E) cl (fun c d _ H' => E c d H') (defBody st) b)
    (hn : ps.length = n := by rfl) (hf : mFn N.length b = mf := by rfl) : MakS gd P w K mg base cl (k + 1) c x n mf := by
  subst hn hf
  obtain ⟨f, fd, F, hm, hk, hb⟩ := D
  exact ⟨f, fd, ps, fn_ok F S fun cdv A outer s H E hr => hbody f cdv A outer s H E hr, hm, hk, hb⟩
theorem lookF_ok {H : Hp} {mu : List Addr} {f : Str} {d : D} : ∀ {fs : List (Str × D)} {gs : List (Str × V)}, RpP K H mu fs gs → fs.lookup f = some d → ∃ v, gs.lookup f = some v ∧ Rp K H mu d v
  | _, _, .nil, h => by cases h
  | (q, x) :: r, (q', y) :: r', .cons ⟨e, a⟩ b, h => by
    have e : q = q' := e
    subst e
    simp only [List.lookup] at h ⊢
    cases hq : (f == q) with
    | true => rw [hq] at h; cases h; exact ⟨y, rfl, a⟩
    | false => rw [hq] at h; exact lookF_ok b h
theorem lookF_none {H : Hp} {mu : List Addr} {f : Str} : ∀ {fs : List (Str × D)} {gs : List (Str × V)}, RpP K H mu fs gs → fs.lookup f = none → gs.lookup f = none
  | _, _, .nil, h => rfl
  | (q, x) :: r, (q', y) :: r', .cons ⟨e, a⟩ b, h => by
    have e : q = q' := e
    subst e
    simp only [List.lookup] at h ⊢
    cases hq : (f == q) with
    | true => rw [hq] at h; cases h
    | false => rw [hq] at h; exact lookF_none b h
theorem putF_ok {H : Hp} {mu : List Addr} {f : Str} {d : D} {v : V} (r : Rp K H mu d v) : ∀ {fs : List (Str × D)} {gs : List (Str × V)}, RpP K H mu fs gs → RpP K H mu (putFD f d fs) (putF f v gs)
  | _, _, .nil => .cons ⟨rfl, r⟩ .nil
  | (q, x) :: t, (q', y) :: t', .cons ⟨e, a⟩ b => by
    have e : q = q' := e
    subst e
    unfold putFD putF
    by_cases hq : q = f
    · rw [if_pos hq, if_pos hq]; exact .cons ⟨rfl, r⟩ b
    · rw [if_neg hq, if_neg hq]; exact .cons ⟨rfl, a⟩ (putF_ok r b)
theorem ins_at {H : Hp} {mu : List Addr} {h : Hs} {n : Nat} {a : Addr} {c : Nat} {fs : List (Str × D)} (hr : HR K H mu cl h) (hn : mu[n]? = some a) (e : h[n]? = some (.ins c fs)) : ∃ dx gs, H a = some (.ins (cl c) dx gs) ∧ RpP K H mu fs gs := by
  obtain ⟨a', ha', ro⟩ := hr.at e
  rw [hn] at ha'; cases ha'
  exact ro
/-- a field is stored -/
theorem setF_ok {H : Hp} {mu : List Addr} {h h' : Hs} {cs : List Nat} {f : Str} {x y : D} {u v : V} (fl : Flds K cl cs f) (hr : HR K H mu cl h) (rx : Rp K H mu x u) (ry : Rp K H mu y v) (q : vSetF cs f x y h = some h') :
    ∃ a C dx gs, u = .ref a ∧ H a = some (.ins C dx gs) ∧ Cls K C ∧ NoAttr K C f ∧ gs.length < 1000 ∧ Ext H mu (upd H a (.ins C dx (putF f v gs))) mu ∧ HR K (upd H a (.ins C dx (putF f v gs))) mu cl h' := by
  cases rx with
  | @ref n a hn =>
    unfold vSetF at q
    simp only at q
    split at q
    · rename_i c fs e
      split at q
      · rename_i hz
        rw [Bool.and_eq_true] at hz
        cases q
        obtain ⟨dx, gs, h1, h2⟩ := ins_at hr hn e
        obtain ⟨k1, k2⟩ := fl c (List.contains_iff_mem.mp hz.1)
        have hl : gs.length < 1000 := by
          have := Nat.le_of_ble_eq_true hz.2
          rw [← Paired.length h2]; omega
        have E : Ext H mu (upd H a (.ins (cl c) dx (putF f v gs))) mu := Ext.written hn h1 (by intro _ z; cases z) (fun z => z)
        exact ⟨a, cl c, dx, gs, rfl, h1, k1, k2, hl, E, hr.written hn h1 (by intro _ z; cases z) (fun z => z) ⟨dx, _, upd_same, (putF_ok ry h2).mono E⟩⟩
      · cases q
    · cases q
  | _ => cases q
end
section
variable {X : Cx} {cl : CW} {W : WX} {a b c e o i : Expr} {es : List Expr} {ma mb mo : ME} {ms : MA} {pos p p2 apos : Pos} {x f m : Str} {mf : MF} {k n cn : Nat} {cs : List Nat}
theorem se_fld (fl : Flds X.K cl cs f) (ha : SE X cl W a ma) (hb : attributeBase a f X.env (eval a X.env) = eval a X.env := by rfl) : SE X cl W (.Attribute a f pos) (eOp1 (vFld cs f) ma) :=
  PE.imp (pe_fld ha hb) fun sg H Q ⟨mu, env, h, rel, p⟩ => ⟨mu, env, h, rel, (Post.bind p).mono fun b H1 ⟨mu1, d, h1, e, hr, rb, p1⟩ => by
    have p1 := PostO.of p1
    cases rb with
    | @ref n a hn =>
      unfold vFld at p1
      simp only at p1
      split at p1
      · rename_i c fs q
        split at p1
        · rename_i hz
          obtain ⟨k1, k2⟩ := fl c (List.contains_iff_mem.mp hz)
          obtain ⟨dx, gs, g1, g2⟩ := ins_at hr hn q
          cases q2 : fs.lookup f with
          | none => rw [q2] at p1; exact p1.elim
          | some d =>
            rw [q2] at p1
            obtain ⟨v, h1', h2'⟩ := lookF_ok g2 q2
            exact ⟨a, cl c, dx, gs, v, rfl, g1, k1, k2, h1', p1 _ _ _ (Ext.refl _ _) hr h2'⟩
        · exact p1.elim
      · exact p1.elim
    | _ => exact p1.elim⟩
theorem ss_fld (fl : Flds X.K cl cs f) (ho : SE X cl W o mo) (hv : SE X cl W e ma) (hs : swapsWith e (some (.Attribute o f p2)) pos.line X.env = pure false := by rfl) : SS X cl W (.Assign [.Attribute o f p2] e pos) (sFldM cs f mo ma) :=
  PS.imp (ps_fld ho hv hs) fun D sg H ⟨mu, env, h, rel, p⟩ => ⟨mu, env, h, rel, (PostS.of rel.er p).mono fun b H1 ⟨mu1, d1, h1, e, hr, rb, p1⟩ => ⟨mu1, env, h1, ⟨hr, rel.er.mono e⟩, (PostS.of (rel.er.mono e) p1).mono fun b2 H2 ⟨mu2, d2, h2, e2, hr2, rb2, p2⟩ => by
    cases q : vSetF cs f d2 d1 h2 with
    | none => rw [q] at p2; exact p2.elim
    | some h3 =>
      rw [q] at p2
      obtain ⟨a, C, dx, gs, rfl, g1, g2, g3, g4, E, hr3⟩ := setF_ok fl hr2 rb2 (rb.mono e2) q
      exact ⟨a, C, dx, gs, rfl, g1, g2, g3, g4, p2 _ _ _ E hr3 (((rel.er.mono e).mono e2).mono E)⟩⟩⟩
/-- a target o.f -/
theorem pg_fldM {to : TE} (ho : PE X o to) : PG X (.Attribute o f pos) (fun v σ H Q => to σ H fun x H1 => ∃ a C dx gs, x = .ref a ∧ H1 a = some (.ins C dx gs) ∧ Cls X.K C ∧ NoAttr X.K C f ∧ gs.length < 1000 ∧ Q σ (upd H1 a (.ins C dx (putF f v gs)))) := by
  constructor
  intro pins s σ H v u Q I r h
  rw [assign_Attribute]
  apply wpAny_bind
  apply wpAny_holding
  refine thn (ho.run pins s σ H _ I h) ?_
  rintro ov s1 ⟨x, H1, I1, r1, a, C, dx, gs, rfl, g1, g2, g3, g4, q⟩
  obtain rfl : ov = Value.ref a := r1
  apply wpAny_bind
  apply wpAny_standAt
  apply wpAny_bind
  apply wpAny_holding
  refine setattr_ok I1 g1 g2 g3 g4 r fun s2 I2 => ?_
  exact wpAny_release ⟨σ, _, I2, q⟩
theorem sg_fld (fl : Flds X.K cl cs f) (ho : SE X cl (fun _ _ _ _ => False) o mo) : SG X cl (.Attribute o f pos) (gFld cs f mo) :=
  PG.imp (pg_fldM ho) fun v sg H Q ⟨mu, env, h, d, rel, rd, p⟩ => by
    unfold gFld at p
    refine ⟨mu, env, h, rel, (PostG.of p).mono fun b H1 ⟨mu1, d1, h1, e, hr, rb, p1⟩ => ?_⟩
    cases q : vSetF cs f d1 d h1 with
    | none => rw [q] at p1; exact p1.elim
    | some h3 =>
      rw [q] at p1
      obtain ⟨a, C, dx, gs, rfl, g1, g2, g3, g4, E, hr3⟩ := setF_ok fl hr rb (rd.mono e) q
      exact ⟨a, C, dx, gs, rfl, g1, g2, g3, g4, p1 _ _ _ E hr3 ((rel.er.mono e).mono E)⟩
theorem isC_ok {K : PySem.W.Frag} {H : Hp} {mu : List Addr} {h : Hs} {d : D} {v : V} (hr : HR K H mu cl h) (r : Rp K H mu d v) (q : isC cn m d h = true) : ∃ a dx gs, v = .ref a ∧ H a = some (.ins (cl cn) dx gs) ∧ gs.lookup m = none := by
  cases r with
  | @ref n a hn =>
    unfold isC at q
    simp only at q
    split at q
    · rename_i c' fs e
      rw [Bool.and_eq_true] at q
      have ec : c' = cn := Nat.eq_of_beq_eq_true q.1
      subst ec
      obtain ⟨dx, gs, g1, g2⟩ := ins_at hr hn e
      exact ⟨a, dx, gs, rfl, g1, lookF_none g2 (Option.isNone_iff_eq_none.mp q.2)⟩
    · cases q
  | _ => cases q
theorem se_meth {pl : Sem Bool} (M : MthS gd X.prog X.w X.K X.mg X.base cl k cn m n mf) (hr : Rm gd k X.A) (tk : Takes X W) (ho : SE X cl W o mo) (ha : SA X cl W (e :: es) ms)
    (hst : starEach (e :: es) X.env = (false, eval e X.env) :: starEach es X.env := by rfl) (hpl : (backTo pos (starEach es X.env)).any (·.1) = false := by rfl)
    (ht : eval (.Call (.Attribute o m apos) (e :: es) [] pos) X.env = (do
      let ov ← eval o X.env
      standAt apos.atName
      let (g, first) ← holding [ov] (getMethod ov m pl)
      callWith pos g first (backTo pos (starEach (e :: es) X.env)) (backToKw pos (keywordEach [] X.env))) := by rfl) :
    SE X cl W (.Call (.Attribute o m apos) (e :: es) [] pos) (eMethC cn m n mf mo ms) := by
  obtain ⟨f, fd, ps, F, hc, hm, hb⟩ := M
  constructor
  intro pins s σ H Q I ⟨mu, env, h, rel, p⟩
  refine PySem.W.methodCall_KW (pl := pl) (thn (ho.run pins s σ H _ I ⟨mu, env, h, rel, Post.bind p⟩) ?_) ht
  rintro u s1 ⟨x, H1, I1, rx, mu1, d, h1, e1, hr1, rb, p1⟩
  by_cases q : isC cn m d h1 = true
  · rw [if_pos q] at p1
    obtain ⟨a, dx, gs, rfl, g1, g2⟩ := isC_ok hr1 rb q
    obtain rfl : u = Value.ref a := rx
    refine getmeth_ok I1 g1 hc hm g2 ?_
    refine PySem.W.callWith_K (first := [.ref a]) (h₀ := X.base) I.ok.mod.kin hm.kp (thn (ha.run pos pins s1 σ H1 _ I1 ⟨mu1, env, h1, ⟨hr1, rel.er.mono e1⟩, Post.bind p1⟩) ?_) hst hpl
    rintro us s2 ⟨vs, H2, I2, r2, mu2, ds, h2, e2, hr2, rb2, p2⟩
    refine ⟨I2.kIn, ?_⟩
    exact runG (us := .ref a :: us) (vs := .ref a :: vs) F hr hb tk I2 (.cons rfl r2) ⟨mu2, d :: ds, h2, hr2, .cons (rb.mono e2) rb2, p2⟩
  · rw [if_neg q] at p1; exact p1.elim
theorem se_meth0 {pl : Sem Bool} (M : MthS gd X.prog X.w X.K X.mg X.base cl k cn m n mf) (hr : Rm gd k X.A) (tk : Takes X W) (ho : SE X cl W o mo)
    (ht : eval (.Call (.Attribute o m apos) [] [] pos) X.env = (do
      let ov ← eval o X.env
      standAt apos.atName
      let (g, first) ← holding [ov] (getMethod ov m pl)
      callWith pos g first (backTo pos (starEach [] X.env)) (backToKw pos (keywordEach [] X.env))) := by rfl) :
    SE X cl W (.Call (.Attribute o m apos) [] [] pos) (eMethC cn m n mf mo aNil) := by
  obtain ⟨f, fd, ps, F, hc, hm, hb⟩ := M
  constructor
  intro pins s σ H Q I ⟨mu, env, h, rel, p⟩
  refine PySem.W.methodCall_KW (pl := pl) (thn (ho.run pins s σ H _ I ⟨mu, env, h, rel, Post.bind p⟩) ?_) ht
  rintro u s1 ⟨x, H1, I1, rx, mu1, d, h1, e1, hr1, rb, p1⟩
  by_cases q : isC cn m d h1 = true
  · rw [if_pos q] at p1
    obtain ⟨a, dx, gs, rfl, g1, g2⟩ := isC_ok hr1 rb q
    obtain rfl : u = Value.ref a := rx
    refine getmeth_ok I1 g1 hc hm g2 ?_
    refine PySem.W.callWith_K0 (first := [.ref a]) I1.kIn hm.kp ?_
    exact runG (us := [.ref a]) (vs := [.ref a]) F hr hb tk I1 (.cons rfl .nil) ⟨mu1, [d], h1, hr1, .one rb, p1⟩
  · rw [if_neg q] at p1; exact p1.elim
/-- the making of an instance -/
theorem run_makeW {pins : List (Addr × Obj)} {σ : Sg} {H : Hp} {s : Shared} {Q : VK} {us : List Value} {vs : List V} {C g : Addr} {fd : FuncData} {ps : List Str} {sp : Sp} (M : Mk X.K C g) (F : FnG gd X.prog X.w X.K X.mg X.base k g fd ps sp)
    (hr : Rm gd (k + 1) X.A) (hb : Binds X.K fd ps []) (tk : Takes X W) (I : Inv X pins σ H s) (r : Vals vs us)
    (h : ∀ x dx, H x = none → H dx = none → dx ≠ x → sp (.ref x :: vs) (upd (upd H dx (.own x)) x (.ins C dx [])) (fun v H2 => v = .non ∧ Q (.ref x) H2) (WE W σ)) :
    wpAny (model X.prog X.w) X.A (call (.ref C) us) (EP X pins σ Q) X.xe s := by
  generalize hz : s.heap.objs.size = z
  have f1 : H (z + 1) = none := I.hok.fresh (by rw [hz]; exact Nat.le_succ _)
  have f0 : H z = none := I.hok.fresh (Nat.le_of_eq hz)
  have hq := h (z + 1) z f1 f0 (Nat.ne_of_lt (Nat.lt_succ_self _))
  have J := Inv.made (C := C) I
  rw [hz] at J
  have rr : Vals (V.ref (z + 1) :: vs) (Value.ref (z + 1) :: us) := .cons rfl r
  have hl : (Value.ref (z + 1) :: us).length = ps.length := rr.length.symm.trans (F.len _ _ _ _ hq)
  have bb := hb _ (Value.ref (z + 1) :: us) J.kIn (by rw [List.append_nil]; exact hl)
  rw [List.append_nil] at bb
  refine wpAny_call (make_map (f := g) I.kIn M.makes M.init (beq_iff_eq.mp M.fn) ?_)
  rw [hz]
  refine codeAny_mono (F.run _ X.stack _ _ ⟨Value.ref (z + 1) :: us, []⟩ (Value.ref (z + 1) :: us) _ _ (WE W σ) (hr.make C us []) (J.env0.make C us []) bb rr hq) ?_
  intro r s' hq'
  cases r with
  | error e => exact passAt tk σ pins _ _ e s' J hq'
  | ok fl =>
    cases fl with
    | ret u =>
      obtain ⟨v, H', J3, rv, rfl, q3⟩ := J.after hq'
      exact ⟨rv, V.ref (z + 1), H', J3, rfl, q3⟩
    | _ => exact hq'.elim
theorem HR.made {K : PySem.W.Frag} {H : Hp} {mu : List Addr} {h : Hs} {y dx : Addr} (hy : H y = none) (hd : H dx = none) (ne : dx ≠ y) (hr : HR K H mu cl h) : HR K (upd (upd H dx (.own y)) y (.ins (cl cn) dx [])) (mu ++ [y]) cl (h ++ [.ins cn []]) := by
  have h1 : HR K (upd H dx (.own y)) mu cl h := hr.tupled hd
  have hy1 : upd H dx (.own y) y = none := by rw [upd_ne (Ne.symm ne)]; exact hy
  exact h1.allocd hy1 ⟨dx, [], upd_same, .nil⟩
theorem Ext.made {H : Hp} {mu : List Addr} {y dx C : Addr} (hy : H y = none) (hd : H dx = none) (ne : dx ≠ y) : Ext H mu (upd (upd H dx (.own y)) y (.ins C dx [])) (mu ++ [y]) := by
  have hy1 : upd H dx (.own y) y = none := by rw [upd_ne (Ne.symm ne)]; exact hy
  exact (Ext.tupled (mu := mu) hd).trans (Ext.allocd hy1)
theorem make_post {K : PySem.W.Frag} {sg : Sg} {H1 : Hp} {mu1 : List Addr} {h1 : Hs} {ds : List D} {vs : List V} {Q : VK} (hr : HR K H1 mu1 cl h1) (rb : RpA K H1 mu1 ds vs)
    (p : Post (Rp K) K cl W sg H1 mu1 ((guard n mf (.ref h1.length :: ds) (h1 ++ [.ins cn []])).bind fun r h2 => match r with | .non => .ok (.ref h1.length) h2 | _ => .bad) Q) :
    ∀ y dx, H1 y = none → H1 dx = none → dx ≠ y → spM K cl n mf (.ref y :: vs) (upd (upd H1 dx (.own y)) y (.ins (cl cn) dx [])) (fun v H2 => v = .non ∧ Q (.ref y) H2) (WE W sg) := by
  intro y dx hy hd ne
  have E : Ext H1 mu1 (upd (upd H1 dx (.own y)) y (.ins (cl cn) dx [])) (mu1 ++ [y]) := Ext.made hy hd ne
  have gy : (mu1 ++ [y])[h1.length]? = some y := by rw [← hr.len]; simp
  refine ⟨mu1 ++ [y], .ref h1.length :: ds, h1 ++ [.ins cn []], hr.made hy hd ne, .cons (.ref gy) (rb.mono E), ?_⟩
  cases q : guard n mf (.ref h1.length :: ds) (h1 ++ [.ins cn []]) with
  | bad => rw [q] at p; exact p
  | exc x' h2 => rw [q] at p; exact fun c dd H' mu' e' hr' hx => p c dd H' mu' (E.trans e') hr' hx
  | ok r h2 =>
    rw [q] at p
    intro v H' mu' e' hr' rv
    cases rv with
    | non => exact ⟨rfl, p _ _ _ (E.trans e') hr' (.ref (e'.get gy))⟩
    | _ => exact p.elim
theorem se_make (M : MakS gd X.prog X.w X.K X.mg X.base cl k cn x n mf) (hr : Rm gd (k + 1) X.A) (tk : Takes X W) (ha : SA X cl W (e :: es) ms) (hg : Gl X x := by rfl)
    (hdb : (x == ("__debug__" : Str)) = false := by decide) (he : starEach (e :: es) X.env = (false, eval e X.env) :: starEach es X.env := by rfl) (hpl : (backTo pos (starEach es X.env)).any (·.1) = false := by rfl) :
    SE X cl W (.Call (.Name x p) (e :: es) [] pos) (eMake cn n mf ms) := by
  obtain ⟨f, fd, ps, F, hm, hk, hb⟩ := M
  constructor
  intro pins s σ H Q I ⟨mu, env, h, rel, p⟩
  refine wpAny_Call_Name_kw (ld_glob I hg hm ?_ hdb)
  refine PySem.W.callWith_K (h₀ := X.base) I.ok.mod.kin hk.kp (thn (ha.run pos pins s σ H _ I ⟨mu, env, h, rel, Post.bind p⟩) ?_) he hpl
  rintro us s1 ⟨vs, H1, I1, r1, mu1, ds, h1, e1, hr1, rb1, p1⟩
  exact ⟨I1.kIn, run_makeW hk F hr hb tk I1 r1 (make_post hr1 rb1 p1)⟩
theorem se_make0 (M : MakS gd X.prog X.w X.K X.mg X.base cl k cn x n mf) (hr : Rm gd (k + 1) X.A) (tk : Takes X W) (hg : Gl X x := by rfl) (hdb : (x == ("__debug__" : Str)) = false := by decide) :
    SE X cl W (.Call (.Name x p) [] [] pos) (eMake cn n mf aNil) := by
  obtain ⟨f, fd, ps, F, hm, hk, hb⟩ := M
  constructor
  intro pins s σ H Q I ⟨mu, env, h, rel, p⟩
  refine wpAny_Call_Name_kw (ld_glob I hg hm ?_ hdb)
  exact PySem.W.callWith_K0 I.kIn hk.kp (run_makeW (us := []) hk F hr hb tk I .nil (make_post rel.hr .nil p))
end
end DS

set_option Elab.async false
set_option linter.all false
set_option maxRecDepth 100000
set_option maxHeartbeats 4000000
/-! DSO: max(xs, default=d), tuple.index. -/
namespace DS
open PySem PySem.Spec PyProof.Rows L2
def pickMax (x y : D) (h : Hs) : Option (D × Hs) := match (listOf1 x h).bind intsOf with
  | some [] => some (y, h)
  | some (z :: r) => some (.int (maxI (z :: r)), h)
  | none => none
def eMaxD (a d : ME) : ME := eOp2 pickMax a d
theorem maxOf_eq : ∀ (r : List Int) (x : Int), PySem.W.maxOf x r = r.foldl max x := by
  intro r
  unfold PySem.W.maxOf
  induction r with
  | nil => intro x; rfl
  | cons y r ih =>
    intro x
    rw [List.foldl_cons, List.foldl_cons, ih]
    congr 1
    show (if decide (x < y) = true then y else x) = max x y
    by_cases q : x < y
    · rw [decide_eq_true q, if_pos rfl]; omega
    · rw [decide_eq_false q, if_neg (by decide)]; omega
theorem holds_ints {h : Heap} : ∀ {ns : List Int} {its : List Value}, Vals (ns.map V.int) its → PySem.W.HoldAll h its ns
  | [], its, r => by cases r; exact ⟨[], .nil⟩
  | n :: ns, its, r => by
    rw [List.map_cons] at r
    cases r with
    | cons r1 r2 =>
      obtain ⟨t, rfl⟩ := r1
      obtain ⟨as, q⟩ := holds_ints (h := h) r2
      exact ⟨[] ++ as, .cons (.int n t) q⟩
def tIfM (t a b : MT) : MT := fun env h => (t env h).bind fun x h1 => if x = true then a env h1 else b env h1
theorem st_ifExp {X : Cx} {cl : CW} {W : WX} {a b c : Expr} {ma mb mc : MT} {pos : Pos} (hc : ST X cl W c mc) (ha : ST X cl W a ma) (hb : ST X cl W b mb)
    (he : isTrue (.IfExp c a b pos) X.env (eval (.IfExp c a b pos) X.env) = (do if ← isTrue c X.env (eval c X.env) then isTrue a X.env (eval a X.env) else isTrue b X.env (eval b X.env)) := by rfl) :
    ST X cl W (.IfExp c a b pos) (tIfM mc ma mb) := by
  constructor
  intro pins s σ H Q I ⟨mu, env, h, rel, p⟩
  rw [he]
  refine wpAny_bind (thn (hc.run pins s σ H _ I ⟨mu, env, h, rel, Post.bind (rl := rlB) p⟩) ?_)
  rintro d s1 ⟨H1, I1, mu1, x, h1, e1, hr1, rfl, p1⟩
  cases x with
  | true => exact ha.run pins s1 σ H1 Q I1 ⟨mu1, env, h1, ⟨hr1, rel.er.mono e1⟩, p1⟩
  | false => exact hb.run pins s1 σ H1 Q I1 ⟨mu1, env, h1, ⟨hr1, rel.er.mono e1⟩, p1⟩
def rMaxD (K : PySem.W.Frag) (cl : CW) : List V → List V → Hp → VK → Prop := fun xs zs H Q => ∃ mu h d e x z, xs = [x] ∧ zs = [z] ∧ HR K H mu cl h ∧ Rp K H mu d x ∧ Rp K H mu e z ∧ PostO K cl H mu (pickMax d e h) Q
section
variable {X : Cx} {cl : CW} {W : WX} {a b c e o i : Expr} {es : List Expr} {ma mb mo : ME} {ms : MA} {pos p p2 apos kpos : Pos}
theorem b_maxD (hc : X.calm = true) (hu : X.A.units + 1 < cLine) : CallRK X (.builtin "max") ["default"] (rMaxD X.K cl) := by
  intro pins s σ H xs zs us ws Q I r rz ⟨mu, h, d, e, x, z, hx, hz, hr, rd, re, p⟩
  subst hx hz
  obtain ⟨u, rfl, rx⟩ := vals1 r
  obtain ⟨v, rfl, rv⟩ := vals1 rz
  unfold pickMax at p
  cases q : listOf1 d h with
  | none => rw [q] at p; exact p.elim
  | some ys =>
    rw [q] at p
    simp only [Option.bind_some] at p
    obtain ⟨a, us', rfl, g1, k1⟩ := listOf1_ok hr rd q
    cases q2 : intsOf ys with
    | none => rw [q2] at p; exact p.elim
    | some ns =>
      rw [q2] at p
      have en := ints_ok k1 q2
      subst en
      obtain rfl : u = Value.ref a := rx
      obtain ⟨its, rv2, pl, hz⟩ := I.list g1
      refine PySem.W.max_list_datum_default (α := Int) (I.ok.hd hc) pl.isList (holds_ints (ns := ns) (by simpa using rv2)) (by show X.A.units + 1 + 0 < cLine; omega) ?_ ?_
      · intro e0 h' tk hk
        subst e0
        exact ⟨z, H, I.kept (t' := tk) hk, rv, p _ _ _ (Ext.refl _ _) hr re⟩
      · intro y r' i v' h' tk e0 hi hh hk
        subst e0
        obtain ⟨as, hh⟩ := hh
        have ev : ∃ t, v' = Value.int (PySem.W.maxOf y r') t := by
          generalize PySem.W.maxOf y r' = m at hh
          cases hh with
          | int _ t => exact ⟨t, rfl⟩
        obtain ⟨t, rfl⟩ := ev
        refine ⟨.int (PySem.W.maxOf y r'), H, I.kept (t' := tk) hk, ⟨t, rfl⟩, ?_⟩
        rw [maxOf_eq]
        exact p _ _ _ (Ext.refl _ _) hr (.int _)
theorem se_maxD (hu : X.A.units + 1 < cLine) (hc : X.calm = true) (hm : X.mg "max" = none) (ha : SE X cl W a ma) (hd : SE X cl W b mb) (hg : Gl X "max" := by rfl) (hs : starEach [a] X.env = (false, eval a X.env) :: starEach [] X.env := by rfl)
    (he : backTo pos (starEach [a] X.env) = (false, eval a X.env) :: backTo pos (starEach [] X.env) := by rfl) (hpl : (backTo pos (starEach [a] X.env)).any (·.1) = false := by rfl)
    (hall : (backToKw pos (keywordEach [⟨some "default", b, kpos⟩] X.env)).all (·.1.isSome) = true := by rfl) (hnone : (backToKw pos (keywordEach [⟨some "default", b, kpos⟩] X.env)).any (·.1.isNone) = false := by rfl) (hks : (backToKw pos (keywordEach [⟨some "default", b, kpos⟩] X.env)).filterMap (·.1) = [("default" : Str)] := by rfl) :
    SE X cl W (.Call (.Name "max" p) [a] [⟨some "default", b, kpos⟩] pos) (eMaxD ma mb) :=
  PE.imp (pe_callBK (b_maxD (cl := cl) hc hu) hg hm boot_max (pa_cons ha pa_nil hs) (pk_cons hd pk_nil) (by decide) (by decide) he hpl hall hnone hks) fun sg H Q ⟨mu, env, h, rel, p⟩ =>
    ⟨mu, env, h, rel, (Post.bind p).mono fun b H1 ⟨mu1, d, h1, e, hr, rb, p1⟩ => ⟨mu1, env, h1, ⟨hr, rel.er.mono e⟩, (Post.bind p1).mono fun b2 H2 ⟨mu2, d2, h2, e2, hr2, rb2, p2⟩ => ⟨mu2, h2, d, d2, b, b2, rfl, rfl, hr2, rb.mono e2, rb2, .of p2⟩⟩⟩
/-! ### tuple.index of texts -/
def strsOf : List D → Option (List Str)
  | [] => some []
  | .str i :: r => (strsOf r).map (i :: ·)
  | _ => none
def idxS (z : Str) : List Str → Nat → Option Nat
  | [], _ => none
  | y :: r, j => if y = z then some j else idxS z r (j + 1)
def isTp : D → Bool
  | .tup _ => true
  | _ => false
def vTIndex : OM
  | .tup xs, [.str z], h => match (strsOf xs).bind fun ys => idxS z ys 0 with
    | some j => some (.int (j : Nat), h)
    | none => none
  | _, _, _ => none
def eMethT (g : OM) (a : ME) (b : MA) : ME := fun env h => (a env h).bind fun x h1 => if isTp x = true then (b env h1).bind fun ys h2 => lft (g x ys h2) else .bad
theorem strs_ok {K : PySem.W.Frag} {H : Hp} {mu : List Addr} : ∀ {ds : List D} {xs : List V} {ns : List Str}, RpA K H mu ds xs → strsOf ds = some ns → xs = ns.map V.str
  | _, _, _, .nil, h => by cases h; rfl
  | d :: ds, _, ns, .cons a b, h => by
    cases a with
    | str i =>
      unfold strsOf at h
      cases q : strsOf ds with
      | none => rw [q] at h; cases h
      | some r => rw [q] at h; cases h; rw [strs_ok b q]; rfl
    | _ => cases h
theorem idxS_ok {z : Str} : ∀ {ys : List Str} {i j : Nat}, idxS z ys i = some j → ∃ k, j = i + k ∧ ys[k]? = some z ∧ ∀ m, m < k → ys[m]? ≠ some z
  | [], i, j, h => by cases h
  | y :: r, i, j, h => by
    unfold idxS at h
    by_cases q : y = z
    · rw [if_pos q] at h
      cases h
      exact ⟨0, rfl, by simp [q], fun m hm => by omega⟩
    · rw [if_neg q] at h
      obtain ⟨k, h1, h2, h3⟩ := idxS_ok h
      refine ⟨k + 1, by omega, by simpa using h2, fun m hm => ?_⟩
      cases m with
      | zero => simp [q]
      | succ m => simpa using h3 m (by omega)
theorem mt_tidx : MtR X "tuple.index" (fun x xs H Q => ∃ mu h d ds, HR X.K H mu cl h ∧ Rp X.K H mu d x ∧ RpA X.K H mu ds xs ∧ PostO X.K cl H mu (vTIndex d ds h) Q) := by
  intro pins s σ H x xs v us Q I rx r ⟨mu, h, d, ds, hr, rd, ra, p⟩
  cases rd with
  | @tup a ys ds' sa ra' =>
    cases ra with
    | nil => exact p.elim
    | cons r1 r2 =>
      cases r1 with
      | str z =>
        cases r2 with
        | cons _ _ => exact p.elim
        | nil =>
          unfold vTIndex at p
          simp only at p
          cases q : strsOf ds' with
          | none => rw [q] at p; exact p.elim
          | some zs =>
            rw [q] at p
            simp only [Option.bind_some] at p
            cases q2 : idxS z zs 0 with
            | none => rw [q2] at p; exact p.elim
            | some j =>
              rw [q2] at p
              obtain ⟨k, h1, h2, h3⟩ := idxS_ok q2
              have e := strs_ok ra' q
              subst e
              rw [Nat.zero_add] at h1
              subst h1
              exact mt_tup_index pins s σ H _ _ v us Q I rx r ⟨a, zs, z, j, rfl, rfl, sa, h2, h3, p _ _ _ (Ext.refl _ _) hr (.int _)⟩
      | _ => exact p.elim
  | _ => exact p.elim
end
end DS

set_option Elab.async false
set_option linter.all false
set_option maxRecDepth 100000
set_option maxHeartbeats 4000000
namespace DS
open PySem PySem.Spec PyProof.Rows L2
/-! DSP: the head's facts on classes. -/
abbrev defM (x m qual : Str) (st : Stmt) : He.DefD := ⟨(x, some m), m, qual, defArgs st, defBody st, defScope st, [], []⟩
theorem mthAt_of {fa : List He.Fa} {fn : List He.DefD} {K : PySem.W.Frag} {cl : CW} (cd : He.SaysD fa fn K) {c : Nat} {x m qual : Str} {st : Stmt} {ps : List Str} (hcl : cl c = He.ga K x) (i j k : Nat) (hi : fa[i]? = some (.cls x)) (hj : fa[j]? = some (.meth x m)) (hk : fn[k]? = some (defM x m qual st))
    (hb : ∀ (kV doc pm : Value) (an : Option Addr) (cdv ct : Value) (us : List Value), us.length = ps.length → bindArgs (PySem.W.fnOf m qual (defArgs st) (defBody st) (defScope st) .none kV doc pm an cdv ct) ⟨us, []⟩ = pure (ps.zip us)) : MthAt K cl c m qual st ps := by
  obtain ⟨fd, F⟩ := cd.def_ k hk
  refine ⟨_, fd, fun_of F, ?_, ?_, FunD.bindsN F hb⟩
  · rw [hcl]; exact He.cls_ok (cd.fact i hi)
  · rw [hcl]; exact He.meth_ok (cd.fact j hj)
theorem makAt_of {fa : List He.Fa} {fn : List He.DefD} {K : PySem.W.Frag} {h : Heap} {mg : Str → Option Value} {cl : CW} (X : K.In h) (G : h.Ns mainGlobals mg) (cd : He.SaysD fa fn K) {c : Nat} {x qual : Str} {st : Stmt} {ps : List Str} (hcl : cl c = He.ga K x) (i j k : Nat) (hi : fa[i]? = some (.glo x)) (hj : fa[j]? = some (.mkr x)) (hk : fn[k]? = some (defM x "__init__" qual st))
    (hb : ∀ (kV doc pm : Value) (an : Option Addr) (cdv ct : Value) (us : List Value), us.length = ps.length → bindArgs (PySem.W.fnOf "__init__" qual (defArgs st) (defBody st) (defScope st) .none kV doc pm an cdv ct) ⟨us, []⟩ = pure (ps.zip us)) : MakAt K mg cl c x qual st ps := by
  obtain ⟨fd, F⟩ := cd.def_ k hk
  refine ⟨_, fd, fun_of F, ?_, ?_, FunD.bindsN F hb⟩
  · rw [hcl]; exact He.glo_ok X G (cd.fact i hi)
  · rw [hcl]; exact He.mkr_ok (cd.fact j hj)
end DS

set_option Elab.async false
set_option linter.all false
set_option maxRecDepth 100000
set_option maxHeartbeats 4000000
/-! DXA: list.index of flat items. -/
namespace DS
open PySem PySem.Spec PyProof.Rows L2
def idxD (y : D) : List D → Nat → Option Nat
  | [], _ => none
  | x :: r, j => if eqD x y = true then some j else idxD y r (j + 1)
def vLIndex : OM
  | .ref n, [y], h => match h[n]? with
    | some (.lst xs) => if (flatD y && xs.all flatD) = true then (idxD y xs 0).map fun j => (.int (j : Nat), h) else none
    | _ => none
  | _, _, _ => none
theorem idxD_ok {y : D} : ∀ {xs : List D} {i j : Nat}, idxD y xs i = some j → ∃ k z, j = i + k ∧ xs[k]? = some z ∧ eqD z y = true ∧ ∀ m z', m < k → xs[m]? = some z' → eqD z' y = false
  | [], i, j, h => by cases h
  | x :: r, i, j, h => by
    unfold idxD at h
    by_cases q : eqD x y = true
    · rw [if_pos q] at h
      cases h
      exact ⟨0, x, rfl, rfl, q, fun m _ hm => by omega⟩
    · rw [if_neg q] at h
      obtain ⟨k, z, h1, h2, h3, h4⟩ := idxD_ok h
      refine ⟨k + 1, z, by omega, by simpa using h2, h3, fun m z' hm hz => ?_⟩
      cases m with
      | zero =>
        simp only [List.getElem?_cons_zero, Option.some.injEq] at hz
        subst hz
        simpa using q
      | succ m => exact h4 m z' (by omega) (by simpa using hz)
section
variable {X : Cx} {cl : CW} {W : WX} {a b c e o i : Expr} {es : List Expr} {ma mb mc : ME} {ms : MA} {pos p : Pos}
theorem m_lindex : MtR X "list.index" (rM X.K cl vLIndex) := by
  intro pins s σ H x xs v us Q I rx rxs ⟨mu, h, d, ds, hr, rd, rds, p⟩
  cases rd with
  | @ref n a hn =>
    cases rds with
    | nil => exact p.elim
    | @cons d1 v1 _ _ rd1 rest =>
      cases rest with
      | cons _ _ => exact p.elim
      | nil =>
        unfold vLIndex at p
        simp only at p
        split at p
        · rename_i ys q
          split at p
          · rename_i hz
            rw [Bool.and_eq_true] at hz
            cases q2 : idxD d1 ys 0 with
            | none => rw [q2] at p; exact p.elim
            | some j =>
              rw [q2] at p
              obtain ⟨a', ha', zs, g1, k1⟩ := hr.at q
              rw [hn] at ha'; cases ha'
              obtain ⟨k, z, e1, e2, e3, e4⟩ := idxD_ok q2
              rw [Nat.zero_add] at e1
              subst e1
              obtain ⟨w, hw, rw'⟩ := k1.get e2
              have fz : ∀ {m : Nat} {z : D}, ys[m]? = some z → flatD z = true := fun {m z} hm => List.all_eq_true.mp hz.2 z (List.mem_of_getElem? hm)
              refine mt_index pins s σ H _ _ v us Q I rx rxs ⟨a, zs, v1, j, w, rfl, rfl, SqL.of g1, flat_of rd1 hz.1, flats_of k1 hz.2, hw, by rw [eqD_eqV rw' rd1 (fz e2) hz.1]; exact e3, fun m z' hm hz' => ?_, p _ _ _ (Ext.refl _ _) hr (.int _)⟩
              have hl : m < ys.length := by
                rw [k1.length]; exact (List.getElem?_eq_some_iff.mp hz').1
              obtain ⟨w2, hw2, rw2⟩ := k1.get (List.getElem?_eq_getElem hl)
              rw [hz'] at hw2; cases hw2
              rw [eqD_eqV rw2 rd1 (fz (List.getElem?_eq_getElem hl)) hz.1]
              exact e4 m _ hm (List.getElem?_eq_getElem hl)
          · exact p.elim
        · exact p.elim
  | _ => exact p.elim
theorem se_lindex {apos cpos : Pos} (ho : SE X cl W o ma) (ha : SA X cl W [e] ms)
    (hbase : attributeBase o "index" X.env (eval o X.env) = eval o X.env := by rfl)
    (hfew : ((backTo cpos (starEach [e] X.env)).all (fun x => !x.1) && (backToKw cpos (keywordEach [] X.env)).all (fun x => x.1.isSome)
      && decide ([e].length + ([] : List Keyword).length + (if ([] : List Keyword).isEmpty then 0 else 1) < 30)) = true := by rfl)
    (hline : (apos.endLine == cpos.line) = true := by rfl) (hs : starEach [e] X.env = (false, eval e X.env) :: starEach [] X.env := by rfl) :
    SE X cl W (.Call (.Attribute o "index" apos) [e] [] cpos) (eMethL vLIndex ma ms) := se_ml PySem.F.slot_list_index PySem.F.type_list_index m_lindex ho ha hbase hfew hline hs
end
end DS

set_option Elab.async false
set_option linter.all false
set_option maxRecDepth 100000
set_option maxHeartbeats 4000000
/-! DXB: data with lists of lists read off the heap; repr, == of these. -/
namespace DS
open PySem PySem.Spec PyProof.Rows L2
/-- data of depth at most n, lists of the heap read -/
def rsv (h : Hs) : Nat → D → Option PyData
  | _, .non => some .none
  | _, .bl b => some (.bool b)
  | _, .int i => some (.int i)
  | _, .str x => some (.str x)
  | n + 1, .tup xs => (xs.mapM (rsv h n)).map .tuple
  | n + 1, .sl xs => (xs.mapM (rsv h n)).map .list
  | n + 1, .ref k => match h[k]? with
    | some (.lst xs) => (xs.mapM (rsv h n)).map .list
    | _ => none
  | 0, .tup _ => none
  | 0, .sl _ => none
  | 0, .ref _ => none
theorem mapM_cons {α β : Type} {f : α → Option β} {x : α} {xs : List α} {ys : List β} (h : (x :: xs).mapM f = some ys) : ∃ y r, f x = some y ∧ xs.mapM f = some r ∧ ys = y :: r := by
  rw [List.mapM_cons] at h
  cases q : f x with
  | none => rw [q] at h; cases h
  | some y =>
    rw [q] at h
    cases q2 : xs.mapM f with
    | none => rw [q2] at h; cases h
    | some r => rw [q2] at h; cases h; exact ⟨y, r, rfl, rfl, rfl⟩
section
variable {K : PySem.W.Frag} {H : Hp} {mu : List Addr} {cl : CW} {h : Hs}
theorem rsvs_dp {n : Nat} (ih : ∀ {d : D} {v : V} {x : PyData}, Rp K H mu d v → rsv h n d = some x → Dp K H v x) : ∀ {ds : List D} {vs : List V} {xs : List PyData}, RpA K H mu ds vs → ds.mapM (rsv h n) = some xs → DpAll K H vs xs
  | _, _, _, .nil, e => by cases e; exact .nil
  | _, _, _, .cons a b, e => by
    obtain ⟨y, r, e1, e2, rfl⟩ := mapM_cons e
    exact .cons (ih a e1) (rsvs_dp ih b e2)
theorem rsv_dp (hr : HR K H mu cl h) : ∀ (n : Nat) {d : D} {v : V} {x : PyData}, Rp K H mu d v → rsv h n d = some x → Dp K H v x
  | n, .non, _, _, r, e => by cases r; cases n <;> (cases e; exact .non)
  | n, .bl b, _, _, r, e => by cases r; cases n <;> (cases e; exact .bl b)
  | n, .int i, _, _, r, e => by cases r; cases n <;> (cases e; exact .int i)
  | n, .str s, _, _, r, e => by cases r; cases n <;> (cases e; exact .str s)
  | 0, .tup _, _, _, _, e => by cases e
  | 0, .sl _, _, _, _, e => by cases e
  | 0, .ref _, _, _, _, e => by cases e
  | n + 1, .tup xs, _, _, r, e => by
    cases r with
    | tup s ra =>
      simp only [rsv] at e
      cases q : xs.mapM (rsv h n) with
      | none => rw [q] at e; cases e
      | some ys => rw [q] at e; cases e; exact .tup s (rsvs_dp (rsv_dp hr n) ra q)
  | n + 1, .sl xs, _, _, r, e => by
    cases r with
    | sl s ra =>
      simp only [rsv] at e
      cases q : xs.mapM (rsv h n) with
      | none => rw [q] at e; cases e
      | some ys => rw [q] at e; cases e; exact .lst s.sql (rsvs_dp (rsv_dp hr n) ra q)
  | n + 1, .ref k, _, _, r, e => by
    cases r with
    | @ref _ a hk =>
      simp only [rsv] at e
      split at e
      · rename_i xs hx
        cases q : xs.mapM (rsv h n) with
        | none => rw [q] at e; cases e
        | some ys =>
          rw [q] at e
          cases e
          obtain ⟨a', ha, zs, g1, k1⟩ := hr.at hx
          rw [hk] at ha; cases ha
          exact .lst (SqL.of g1) (rsvs_dp (rsv_dp hr n) k1 q)
      · cases e
end
theorem rsvs_all {h : Hs} {n m : Nat} (ih : ∀ {d : D} {x : PyData}, rsv h n d = some x → x.depth ≤ m ∧ x.hasDict = false) : ∀ {ds : List D} {xs : List PyData}, ds.mapM (rsv h n) = some xs → PyData.depthAll xs ≤ m ∧ PyData.hasDictAll xs = false
  | [], xs, e => by
    have : xs = [] := by cases e; rfl
    subst this
    exact ⟨by simp [PyData.depthAll], by simp [PyData.hasDictAll]⟩
  | d :: ds, _, e => by
    obtain ⟨y, r, e1, e2, rfl⟩ := mapM_cons e
    obtain ⟨a1, a2⟩ := ih e1
    obtain ⟨b1, b2⟩ := rsvs_all ih e2
    exact ⟨by simp only [PyData.depthAll]; omega, by simp only [PyData.hasDictAll, a2, b2]; rfl⟩
theorem rsv_all {h : Hs} : ∀ (n : Nat) {d : D} {x : PyData}, rsv h n d = some x → x.depth ≤ n + 1 ∧ x.hasDict = false
  | n, .non, _, e => by cases n <;> (cases e; exact ⟨by simp only [PyData.depth]; omega, by simp only [PyData.hasDict]⟩)
  | n, .bl b, _, e => by cases n <;> (cases e; exact ⟨by simp only [PyData.depth]; omega, by simp only [PyData.hasDict]⟩)
  | n, .int i, _, e => by cases n <;> (cases e; exact ⟨by simp only [PyData.depth]; omega, by simp only [PyData.hasDict]⟩)
  | n, .str s, _, e => by cases n <;> (cases e; exact ⟨by simp only [PyData.depth]; omega, by simp only [PyData.hasDict]⟩)
  | 0, .tup _, _, e => by cases e
  | 0, .sl _, _, e => by cases e
  | 0, .ref _, _, e => by cases e
  | n + 1, .tup xs, _, e => by
    simp only [rsv] at e
    cases q : xs.mapM (rsv h n) with
    | none => rw [q] at e; cases e
    | some ys =>
      rw [q] at e
      cases e
      obtain ⟨a, b⟩ := rsvs_all (rsv_all n) q
      exact ⟨by simp only [PyData.depth]; omega, by simp only [PyData.hasDict, b]⟩
  | n + 1, .sl xs, _, e => by
    simp only [rsv] at e
    cases q : xs.mapM (rsv h n) with
    | none => rw [q] at e; cases e
    | some ys =>
      rw [q] at e
      cases e
      obtain ⟨a, b⟩ := rsvs_all (rsv_all n) q
      exact ⟨by simp only [PyData.depth]; omega, by simp only [PyData.hasDict, b]⟩
  | n + 1, .ref k, _, e => by
    simp only [rsv] at e
    split at e
    · rename_i xs hx
      cases q : xs.mapM (rsv h n) with
      | none => rw [q] at e; cases e
      | some ys =>
        rw [q] at e
        cases e
        obtain ⟨a, b⟩ := rsvs_all (rsv_all n) q
        exact ⟨by simp only [PyData.depth]; omega, by simp only [PyData.hasDict, b]⟩
    · cases e
def reprOk (x : PyData) : Bool := x.showable && Nat.ble x.shown.length 16777216
def vRepr : ON
  | [d], h => match rsv h 30 d with
    | some x => if reprOk x = true then some (.str x.shown, h) else none
    | none => none
  | _, _ => none
/-- == with lists of lists -/
def eqX (d e : D) (h : Hs) : Option Bool := match rsv h 30 d, rsv h 30 e with
  | some x, some y => if (SeqAt.shaped x && SeqAt.shaped y) = true then some (PyData.eqv x y) else none
  | _, _ => none
def vEqX : O2 := fun d e h => (eqX d e h).map fun b => (.bl b, h)
def vNeX : O2 := fun d e h => (eqX d e h).map fun b => (.bl (!b), h)
section
variable {X : Cx} {cl : CW} {W : WX} {a b c e o i : Expr} {es : List Expr} {ma mb mc : ME} {ms : MA} {pos p : Pos}
theorem size_line : sizeLine = 16777216 := by decide
theorem b_repr (hg : X.A.guards = some []) (hu : X.A.units + 64 < cLine) : CallR X (.builtin "repr") (rN X.K cl vRepr) := by
  intro pins s σ H xs us Q I r ⟨mu, h, ds, hr, ra, p⟩
  cases ra with
  | nil => exact p.elim
  | @cons d v _ _ rd rest =>
    cases rest with
    | cons _ _ => exact p.elim
    | nil =>
      obtain ⟨u, rfl, rv⟩ := vals1 r
      unfold vRepr at p
      simp only at p
      cases q : rsv h 30 d with
      | none => rw [q] at p; exact p.elim
      | some x =>
        rw [q] at p
        simp only at p
        by_cases ok : reprOk x = true
        · rw [if_pos ok] at p
          unfold reprOk at ok
          rw [Bool.and_eq_true] at ok
          have hz : x.shown.length ≤ sizeLine := by rw [size_line]; exact Nat.le_of_ble_eq_true ok.2
          have fin : Q (.str x.shown) H := p _ _ _ (Ext.refl _ _) hr (.str _)
          obtain ⟨dp, nd⟩ := rsv_all 30 q
          have D1 := rsv_dp hr 30 rd q
          obtain ⟨as, rds⟩ := Dp.reads I x v u D1 rv
          cases rd with
          | non => cases q; cases rv; exact PySem.P.repr_of_none ⟨.str _, H, I.tok _, ⟨_, rfl⟩, fin⟩
          | bl b => cases q; cases rv; exact PySem.P.repr_of_bool ⟨.str _, H, I.tok _, ⟨_, rfl⟩, fin⟩
          | int j =>
            cases q
            obtain ⟨t, rfl⟩ := rv
            have : j.natAbs.log2 < 1920 := by simpa [PyData.showable] using ok.1
            exact PySem.P.repr_of_int this ⟨.str _, H, I.tok _, ⟨_, rfl⟩, fin⟩
          | str z =>
            cases q
            obtain ⟨t, rfl⟩ := rv
            exact PySem.P.repr_of_str ⟨.str _, H, I.tok _, ⟨_, rfl⟩, fin⟩ hz
          | tup s1 r1 =>
            cases rv
            exact repr_of_reads' rds ok.1 (PyData.noDict_hsm nd) hg (by omega) (fun _ _ e => e) (fun h' u tk hk => ⟨.str _, H, I.kept hk, ⟨_, rfl⟩, fin⟩) hz
          | ref s1 =>
            cases rv
            exact repr_of_reads' rds ok.1 (PyData.noDict_hsm nd) hg (by omega) (fun _ _ e => e) (fun h' u tk hk => ⟨.str _, H, I.kept hk, ⟨_, rfl⟩, fin⟩) hz
          | sl s1 r1 =>
            cases rv
            exact repr_of_reads' rds ok.1 (PyData.noDict_hsm nd) hg (by omega) (fun _ _ e => e) (fun h' u tk hk => ⟨.str _, H, I.kept hk, ⟨_, rfl⟩, fin⟩) hz
        · rw [if_neg ok] at p; exact p.elim
theorem eqX_ok {K : PySem.W.Frag} {H : Hp} {mu : List Addr} {h : Hs} {d e : D} {x y : V} {b : Bool} (hr : HR K H mu cl h) (rx : Rp K H mu d x) (ry : Rp K H mu e y) (q : eqX d e h = some b) : ∃ u v, Dp K H x u ∧ Dp K H y v ∧ SeqAt.shaped u = true ∧ SeqAt.shaped v = true ∧ PyData.eqv u v = b := by
  unfold eqX at q
  split at q
  · rename_i u v q1 q2
    split at q
    · rename_i hs
      rw [Bool.and_eq_true] at hs
      exact ⟨u, v, rsv_dp hr 30 rx q1, rsv_dp hr 30 ry q2, hs.1, hs.2, Option.some.inj q⟩
    · cases q
  · cases q
theorem o_eqX (hu : X.A.units + 64 < cLine) : OpR X (compareOp .Eq) (r2 X.K cl vEqX) := by
  intro pins s σ H x y v u Q I rx ry ⟨mu, h, d, e, hr, rd, re, p⟩
  unfold vEqX at p
  cases q : eqX d e h with
  | none => rw [q] at p; exact p.elim
  | some b =>
    rw [q] at p
    obtain ⟨m, n, h1, h2, h3, h4, h5⟩ := eqX_ok hr rd re q
    exact op_eqD hu pins s σ H x y v u Q I rx ry ⟨m, n, h1, h2, h3, h4, by rw [h5]; exact p _ _ _ (Ext.refl _ _) hr (.bl b)⟩
theorem o_neX (hu : X.A.units + 64 < cLine) : OpR X (compareOp .NotEq) (r2 X.K cl vNeX) := by
  intro pins s σ H x y v u Q I rx ry ⟨mu, h, d, e, hr, rd, re, p⟩
  unfold vNeX at p
  cases q : eqX d e h with
  | none => rw [q] at p; exact p.elim
  | some b =>
    rw [q] at p
    obtain ⟨m, n, h1, h2, h3, h4, h5⟩ := eqX_ok hr rd re q
    exact op_neD hu pins s σ H x y v u Q I rx ry ⟨m, n, h1, h2, h3, h4, by rw [h5]; exact p _ _ _ (Ext.refl _ _) hr (.bl (!b))⟩
end
end DS

set_option Elab.async false
set_option linter.all false
set_option maxRecDepth 100000
set_option maxHeartbeats 4000000
/-! DXC: when repr tells its text; == of lists of lists. -/
namespace DS
open PySem PySem.Spec PyProof.Rows L2
mutual
def smD : D → Bool
  | .int i => Nat.ble i.natAbs 999999999999
  | .tup xs => smDs xs
  | .non => true
  | .bl _ => true
  | .str _ => true
  | _ => false
def smDs : List D → Bool
  | [] => true
  | x :: xs => smD x && smDs xs
end
mutual
def wD : D → Nat
  | .int _ => 40
  | .str x => x.cps.size
  | .tup xs => wDs xs
  | _ => 0
def wDs : List D → Nat
  | [] => 0
  | x :: xs => wD x + 1 + wDs xs
end
theorem smDs_of {xs : List D} : smDs xs = xs.all smD := by
  induction xs with
  | nil => rfl
  | cons x r ih => simp only [smDs, List.all_cons, ih]
theorem wDs_le {xs : List D} {B : Nat} (h : ∀ x ∈ xs, wD x ≤ B) : wDs xs ≤ (B + 1) * xs.length := by
  induction xs with
  | nil => simp [wDs]
  | cons x r ih =>
    have h1 := h x List.mem_cons_self
    have h2 := ih fun y hy => h y (List.mem_cons_of_mem _ hy)
    simp only [wDs, List.length_cons]
    rw [Nat.mul_succ]
    omega
theorem small_lt {i : Int} (h : Nat.ble i.natAbs 999999999999 = true) : i.natAbs < 10 ^ 12 := by
  have := Nat.le_of_ble_eq_true h
  omega
theorem small_log {i : Int} (h : Nat.ble i.natAbs 999999999999 = true) : i.natAbs.log2 < 40 := by
  have h1 := small_lt h
  by_cases q : i.natAbs = 0
  · rw [q]; decide
  · exact (Nat.log2_lt q).mpr (Nat.lt_trans h1 (by decide))
mutual
theorem pd_small : ∀ (d : D), smD d = true → (pd d).intsShort 13 = true ∧ (pd d).showable = true ∧ (pd d).weight ≤ wD d
  | .non, _ => ⟨rfl, rfl, Nat.le_refl _⟩
  | .bl _, _ => ⟨rfl, rfl, Nat.le_refl _⟩
  | .str x, _ => ⟨rfl, rfl, by simp only [pd, PyData.weight, wD]; exact Nat.le_refl _⟩
  | .int i, h => by
    have h1 := small_log h
    refine ⟨?_, ?_, ?_⟩
    · simp only [pd, PyData.intsShort, decide_eq_true_eq]
      exact PyData.shown_int_le (small_lt h)
    · simp only [pd, PyData.showable, decide_eq_true_eq]; omega
    · simp only [pd, PyData.weight, wD]
      split <;> omega
  | .tup xs, h => by
    obtain ⟨a, b, c⟩ := pds_small xs h
    exact ⟨by simp only [pd, PyData.intsShort]; exact a, by simp only [pd, PyData.showable]; exact b, by simp only [pd, PyData.weight, wD]; exact c⟩
  | .ref _, h => by cases h
  | .sl _, h => by cases h
theorem pds_small : ∀ (ds : List D), smDs ds = true → PyData.intsShortAll 13 (pds ds) = true ∧ PyData.showableAll (pds ds) = true ∧ PyData.weightAll (pds ds) ≤ wDs ds
  | [], _ => ⟨rfl, rfl, Nat.le_refl _⟩
  | d :: ds, h => by
    simp only [smDs, Bool.and_eq_true] at h
    obtain ⟨a, b, c⟩ := pd_small d h.1
    obtain ⟨a', b', c'⟩ := pds_small ds h.2
    exact ⟨by simp only [pds, PyData.intsShortAll, a, a']; rfl, by simp only [pds, PyData.showableAll, b, b']; rfl, by simp only [pds, PyData.weightAll, wDs]; omega⟩
end
theorem okN_mono : ∀ {n m : Nat} {d : D}, n ≤ m → okN n d = true → okN m d = true
  | n, m, .non, _, _ => by cases m <;> rfl
  | n, m, .bl _, _, _ => by cases m <;> rfl
  | n, m, .int _, _, _ => by cases m <;> rfl
  | n, m, .str _, _, h => by cases m <;> cases n <;> exact h
  | 0, _, .tup _, _, h => by cases h
  | n + 1, 0, .tup _, hm, _ => by omega
  | n + 1, m + 1, .tup xs, hm, h => by
    simp only [okN] at h ⊢
    exact List.all_eq_true.mpr fun x hx => okN_mono (by omega) (List.all_eq_true.mp h x hx)
  | n, _, .ref _, _, h => by cases n <;> cases h
  | n, _, .sl _, _, h => by cases n <;> cases h
theorem rsvs_pd {h : Hs} {n : Nat} (ih : ∀ {d : D}, okN n d = true → rsv h n d = some (pd d)) : ∀ {ds : List D}, ds.all (okN n) = true → ds.mapM (rsv h n) = some (pds ds)
  | [], _ => rfl
  | d :: ds, hd => by
    rw [List.all_cons, Bool.and_eq_true] at hd
    rw [List.mapM_cons, ih hd.1, rsvs_pd ih hd.2]
    rfl
theorem rsv_pd {h : Hs} : ∀ (n : Nat) {d : D}, okN n d = true → rsv h n d = some (pd d)
  | n, .non, _ => by cases n <;> rfl
  | n, .bl _, _ => by cases n <;> rfl
  | n, .int _, _ => by cases n <;> rfl
  | n, .str _, _ => by cases n <;> rfl
  | 0, .tup _, e => by cases e
  | n + 1, .tup xs, e => by
    simp only [okN] at e
    simp only [rsv, rsvs_pd (rsv_pd n) e]
    rfl
  | n, .ref _, e => by cases n <;> cases e
  | n, .sl _, e => by cases n <;> cases e
theorem rsv_list {h : Hs} {k : Nat} {xs : List D} (hk : h[k]? = some (.lst xs)) (ok : xs.all (okN 29) = true) : rsv h 30 (.ref k) = some (.list (pds xs)) := by
  simp only [rsv, hk, rsvs_pd (rsv_pd 29) ok]
  rfl
theorem reprOk_of {x : PyData} (h1 : x.canLay0 = true) (h2 : x.intsShort 13 = true) (h3 : x.showable = true) (h4 : x.weight ≤ 1048576) : reprOk x = true := by
  unfold reprOk
  rw [h3, Bool.true_and]
  have := PyData.shown_fits (B := 13) (by decide) (by decide) (PyData.leavesShort_of_canLay0 13 x h1 h2) h4
  rw [size_line] at this
  exact Nat.ble_eq_true_of_le this
/-- repr of a list of pure things -/
theorem repr_ref {h : Hs} {k : Nat} {xs : List D} (hk : h[k]? = some (.lst xs)) (ok : xs.all (okN 29) = true) (sm : smDs xs = true) (wt : wDs xs ≤ 1000000) : vRepr [.ref k] h = some (.str (PyData.list (pds xs)).shown, h) := by
  simp only [vRepr, rsv_list hk ok]
  obtain ⟨a, b, c⟩ := pds_small xs sm
  rw [if_pos (reprOk_of (by simp only [PyData.canLay0]; exact (shape_pds xs 29 ok).1) (by simp only [PyData.intsShort]; exact a) (by simp only [PyData.showable]; exact b) (by simp only [PyData.weight]; omega))]
theorem repr_pure {h : Hs} {d : D} (ok : okN 30 d = true) (sm : smD d = true) (wt : wD d ≤ 1000000) : vRepr [d] h = some (.str (pd d).shown, h) := by
  simp only [vRepr, rsv_pd 30 ok]
  obtain ⟨a, b, c⟩ := pd_small d sm
  rw [if_pos (reprOk_of (shape_pd d 30 ok).1 a b (by omega))]
theorem vNe_strs {x : Str} {h : Hs} : vNe (.str x) (.str x) h = some (.bl false, h) := by
  show some (D.bl (!(x == x)), h) = _
  rw [beq_self_eq_true]; rfl
theorem eqX_same {d e : D} {h : Hs} {x : PyData} (h1 : rsv h 30 d = some x) (h2 : rsv h 30 e = some x) (hs : x.canLay0 = true) : eqX d e h = some true := by
  have dp := (rsv_all 30 h1).1
  have sh : SeqAt.shaped x = true := by
    unfold SeqAt.shaped
    rw [hs, Bool.true_and, decide_eq_true_eq]
    omega
  simp only [eqX, h1, h2, sh, Bool.and_self, if_true]
  rw [SeqAt.eqv_refl x hs]
end DS

set_option Elab.async false
set_option linter.all false
set_option maxRecDepth 100000
set_option maxHeartbeats 4000000
/-! DXQ: sorted(list of data). -/
namespace DS
open PySem PySem.Spec PyProof.Rows L2
def tupC : D → Bool
  | .tup (_ :: _) => true
  | _ => false
def scaC : D → Bool
  | .int _ => true
  | .str _ => true
  | .bl _ => true
  | _ => false
def srtOk (xs : List D) : Bool := xs.all (okN 29) && (xs.all fun x => xs.all fun y => PySem.W.alike (pd x) (pd y)) && (xs.all tupC || xs.all scaC)
def sortD (xs : List D) : List D := xs.mergeSort (PySem.W.dataLe false pd)
def vSorted : ON
  | [d], h => match listOf1 d h with
    | some xs => if srtOk xs = true then some (.ref h.length, h ++ [.lst (sortD xs)]) else none
    | none => none
  | _, _ => none
section
variable {K : PySem.W.Frag} {H : Hp} {mu : List Addr}
theorem each_of : ∀ {ds : List D} {vs : List V} {us : List Value}, RpA K H mu ds vs → Vals vs us → PySem.W.EachIs (fun u d => ∃ v, RelV v u ∧ Rp K H mu d v) us ds
  | _, _, _, .nil, .nil => .nil
  | _, _, _, .cons a b, .cons r s => .cons ⟨_, r, a⟩ (each_of b s)
theorem of_each : ∀ {ds : List D} {us : List Value}, PySem.W.EachIs (fun u d => ∃ v, RelV v u ∧ Rp K H mu d v) us ds → ∃ vs, Vals vs us ∧ RpA K H mu ds vs
  | _, _, .nil => ⟨[], .nil, .nil⟩
  | _, _, .cons ⟨v, r, a⟩ t => by
    obtain ⟨vs, h1, h2⟩ := of_each t
    exact ⟨v :: vs, .cons r h1, .cons a h2⟩
end
section
variable {X : Cx} {cl : CW}
theorem each_reads {pins : List (Addr × Obj)} {σ : Sg} {H : Hp} {s : Shared} {mu : List Addr} (I : Inv X pins σ H s) : ∀ {ds : List D} {us : List Value}, ds.all (okN 29) = true → PySem.W.EachIs (fun u d => ∃ v, RelV v u ∧ Rp X.K H mu d v) us ds → PySem.W.EachIs (fun u d => ∃ as, Reads s.heap u (pd d) as) us ds
  | _, _, _, .nil => .nil
  | d :: ds, _, h, .cons ⟨v, r, a⟩ t => by
    rw [List.all_cons, Bool.and_eq_true] at h
    exact .cons (Dp.reads I (pd d) v _ (Rp.dp d v 29 a h.1) r) (each_reads I h.2 t)
theorem tupC_ok {d : D} (h : tupC d = true) : ∃ x r, pd d = .tuple (x :: r) := by
  cases d with
  | tup xs =>
    cases xs with
    | nil => cases h
    | cons x r => exact ⟨pd x, pds r, by simp only [pd, pds]⟩
  | _ => cases h
theorem scaC_ok {d : D} (h : scaC d = true) : pd d ≠ .none ∧ ∀ xs, pd d ≠ .tuple xs := by
  cases d <;> simp only [scaC, Bool.false_eq_true] at h <;> simp [pd]
theorem b_sorted (hu : X.A.units + 64 < cLine) : CallR X (.builtin "sorted") (rN X.K cl vSorted) := by
  intro pins s σ H xs us Q I r ⟨mu, h, ds, hr, ra, p⟩
  cases ra with
  | nil => exact p.elim
  | @cons d v _ _ rd rest =>
    cases rest with
    | cons _ _ => exact p.elim
    | nil =>
      obtain ⟨u, rfl, rv⟩ := vals1 r
      unfold vSorted at p
      simp only at p
      cases q : listOf1 d h with
      | none => rw [q] at p; exact p.elim
      | some zs =>
        rw [q] at p
        simp only at p
        by_cases ok : srtOk zs = true
        · rw [if_pos ok] at p
          unfold srtOk at ok
          rw [Bool.and_eq_true, Bool.and_eq_true, Bool.or_eq_true] at ok
          obtain ⟨⟨ok1, ok2⟩, ok3⟩ := ok
          obtain ⟨a, ys, rfl, hs, rz⟩ := listOf1_ok hr rd q
          obtain rfl : u = Value.ref a := rv
          obtain ⟨its, rvs, hl, hz⟩ := I.list hs
          have E1 := each_of rz rvs
          refine PySem.W.sorted_data (R := fun u d => ∃ v, RelV v u ∧ Rp X.K H mu d v) (enc := pd) (bs := zs) hl.isList E1 (each_reads I ok1 E1) ?_ ?_ (by rw [rz.length]; exact hz) (fun b hb => ?_) fun out hlen ho => ?_
          · intro x hx y hy
            obtain ⟨x', hx', rfl⟩ := List.mem_map.mp hx
            obtain ⟨y', hy', rfl⟩ := List.mem_map.mp hy
            exact List.all_eq_true.mp (List.all_eq_true.mp ok2 x' hx') y' hy'
          · rcases ok3 with z | z
            · refine .inl fun d hd => ?_
              obtain ⟨x', hx', rfl⟩ := List.mem_map.mp hd
              exact tupC_ok (List.all_eq_true.mp z x' hx')
            · refine .inr fun d hd => ?_
              obtain ⟨x', hx', rfl⟩ := List.mem_map.mp hd
              exact scaC_ok (List.all_eq_true.mp z x' hx')
          · have := (shape_pd b 29 (List.all_eq_true.mp ok1 b hb)).2
            omega
          · obtain ⟨ws, w1, w2⟩ := of_each ho
            obtain ⟨n, hn⟩ := sortedAll_at s.heap its out.toArray
            have fr : H (s.heap.objs.size + 1) = none := I.hok.fresh (Nat.le_succ _)
            refine ⟨.ref (s.heap.objs.size + 1), upd H (s.heap.objs.size + 1) (.lst ws), I.laid (t' := s.toks) (fun b o e => sortedAll_old e) (Nat.le_succ _) ⟨?_, out, n, w1, hn⟩, rfl, ?_⟩
            · rw [w1.length, hlen, rz.length]; exact hz
            · refine p _ _ _ (Ext.allocd fr) (hr.allocd fr ⟨ws, upd_same, w2.mono (Ext.allocd fr)⟩) (.ref ?_)
              rw [← hr.len]; simp
        · rw [if_neg ok] at p; exact p.elim
end
/-! ### x in xs, data of any depth -/
def inX (d e : D) (h : Hs) : Option Bool := match seqOf e h with
  | some xs => if (okN 29 d && xs.all (okN 29)) = true then some (inD d xs) else none
  | none => none
def vInX : O2 := fun d e h => (inX d e h).map fun b => (.bl b, h)
def vNotInX : O2 := fun d e h => (inX d e h).map fun b => (.bl (!b), h)
theorem any_pds {d : D} (hd : okN 29 d = true) : ∀ {xs : List D}, xs.all (okN 29) = true → ((pds xs).any fun z => PyData.eqv z (pd d)) = inD d xs
  | [], _ => rfl
  | x :: xs, h => by
    rw [List.all_cons, Bool.and_eq_true] at h
    have e : inD d (x :: xs) = (eqD x d || inD d xs) := rfl
    rw [pds, List.any_cons, eqv_pd x d 29 29 h.1 hd, any_pds hd h.2, e]
section
variable {X : Cx} {cl : CW}
theorem inX_ok {K : PySem.W.Frag} {H : Hp} {mu : List Addr} {h : Hs} {d e : D} {x y : V} {b : Bool} (hr : HR K H mu cl h) (rx : Rp K H mu d x) (ry : Rp K H mu e y) (q : inX d e h = some b) :
    ∃ xs, (Dp K H y (.tuple (pds xs)) ∨ Dp K H y (.list (pds xs))) ∧ Dp K H x (pd d) ∧ PyData.canLayAll0 (pds xs) = true ∧ (pd d).canLay0 = true ∧ (pd d).depth ≤ 30 ∧ ((pds xs).any fun z => PyData.eqv z (pd d)) = b := by
  unfold inX at q
  cases e1 : seqOf e h with
  | none => rw [e1] at q; cases q
  | some xs =>
    rw [e1] at q
    simp only at q
    split at q
    · rename_i ok
      rw [Bool.and_eq_true] at ok
      obtain ⟨a, ys, rfl, ra, hh⟩ := seqOf_ok hr ry e1
      have dp := RpA.dp xs ys 29 ra ok.2
      refine ⟨xs, ?_, Rp.dp d x 29 rx ok.1, (shape_pds xs 29 ok.2).1, (shape_pd d 29 ok.1).1, (shape_pd d 29 ok.1).2, ?_⟩
      · rcases hh with ⟨s, _⟩ | s
        · exact .inl (.tup s dp)
        · exact .inr (.lst s dp)
      · rw [any_pds ok.1 ok.2]; exact Option.some.inj q
    · cases q
theorem o_inX (hu : X.A.units + 64 < cLine) : OpR X (compareOp .In) (r2 X.K cl vInX) := by
  intro pins s σ H x y v u Q I rx ry ⟨mu, h, d, e, hr, rd, re, p⟩
  unfold vInX at p
  cases q : inX d e h with
  | none => rw [q] at p; exact p.elim
  | some b =>
    rw [q] at p
    obtain ⟨xs, hy, hx, l1, l2, l3, hb⟩ := inX_ok hr rd re q
    obtain ⟨as, r1⟩ := Dp.reads I _ x v hx rx
    have fin : Q (.bl b) H := p _ _ _ (Ext.refl _ _) hr (.bl b)
    have hm : X.A.units + 1 + min (PyData.depthAll (pds xs)) (pd d).depth < cLine := by
      have := Nat.min_le_right (PyData.depthAll (pds xs)) (pd d).depth
      omega
    rcases hy with hy | hy
    · obtain ⟨bs, r2⟩ := Dp.reads I _ y u hy ry
      exact SeqAt.in_tuple_reads r2 r1 l1 l2 hm ⟨.bl _, H, I, rfl, by rw [hb]; exact fin⟩
    · obtain ⟨bs, r2⟩ := Dp.reads I _ y u hy ry
      exact SeqAt.in_list_reads r2 r1 l1 l2 hm ⟨.bl _, H, I, rfl, by rw [hb]; exact fin⟩
theorem o_notInX (hu : X.A.units + 64 < cLine) : OpR X (compareOp .NotIn) (r2 X.K cl vNotInX) := by
  intro pins s σ H x y v u Q I rx ry ⟨mu, h, d, e, hr, rd, re, p⟩
  unfold vNotInX at p
  cases q : inX d e h with
  | none => rw [q] at p; exact p.elim
  | some b =>
    rw [q] at p
    obtain ⟨xs, hy, hx, l1, l2, l3, hb⟩ := inX_ok hr rd re q
    obtain ⟨as, r1⟩ := Dp.reads I _ x v hx rx
    have fin : Q (.bl (!b)) H := p _ _ _ (Ext.refl _ _) hr (.bl (!b))
    have hm : X.A.units + 1 + min (PyData.depthAll (pds xs)) (pd d).depth < cLine := by
      have := Nat.min_le_right (PyData.depthAll (pds xs)) (pd d).depth
      omega
    rcases hy with hy | hy
    · obtain ⟨bs, r2⟩ := Dp.reads I _ y u hy ry
      exact SeqAt.notIn_tuple_reads r2 r1 l1 l2 hm ⟨.bl _, H, I, rfl, by rw [hb]; exact fin⟩
    · obtain ⟨bs, r2⟩ := Dp.reads I _ y u hy ry
      exact SeqAt.notIn_list_reads r2 r1 l1 l2 hm ⟨.bl _, H, I, rfl, by rw [hb]; exact fin⟩
end
end DS

set_option Elab.async false
set_option linter.all false
set_option maxRecDepth 100000
set_option maxHeartbeats 4000000
/-! DXD: dicts whose keys are tuples. -/
namespace DS
open PySem PySem.Spec PyProof.Rows L2
def getN (kvs : List (D × D)) (k : NestedKey) : Option D := (kvs.find? fun p => decide (nkD p.1 = some k)).map (·.2)
def setN (kvs : List (D × D)) (k : NestedKey) (d v : D) : List (D × D) :=
  if (getN kvs k).isSome = true then kvs.map (fun p => if nkD p.1 = some k then (p.1, v) else p) else kvs ++ [(d, v)]
/-- a tuple as a key -/
def keyN : D → Option NestedKey
  | .tup xs => (nkDs xs).bind fun ks => if NestedKey.depth (.tup ks) ≤ 8 then some (.tup ks) else none
  | _ => none
def pairD : D → Option (D × D)
  | .tup [d, v] => some (d, v)
  | _ => none
def prsN : List D → Option (List (NestedKey × D × D))
  | [] => some []
  | x :: r => (pairD x).bind fun q => (keyN q.1).bind fun k => (prsN r).map ((k, q) :: ·)
theorem pairD_ok {x d v : D} (h : pairD x = some (d, v)) : x = .tup [d, v] := by
  unfold pairD at h
  split at h
  · cases h; rfl
  · cases h
theorem prsN_cons {x : D} {r : List D} {ps : List (NestedKey × D × D)} (h : prsN (x :: r) = some ps) : ∃ d v k qs, x = .tup [d, v] ∧ keyN d = some k ∧ prsN r = some qs ∧ ps = (k, d, v) :: qs := by
  unfold prsN at h
  cases q0 : pairD x with
  | none => rw [q0] at h; cases h
  | some q =>
    obtain ⟨d, v⟩ := q
    rw [q0] at h
    simp only [Option.bind_some] at h
    cases q1 : keyN d with
    | none => rw [q1] at h; cases h
    | some k =>
      rw [q1] at h
      simp only [Option.bind_some] at h
      cases q2 : prsN r with
      | none => rw [q2] at h; cases h
      | some qs => rw [q2] at h; cases h; exact ⟨d, v, k, qs, pairD_ok q0, q1, rfl, rfl⟩
def mrgN (ps : List (NestedKey × D × D)) : List (D × D) := ps.foldl (fun acc p => setN acc p.1 p.2.1 p.2.2) []
def vDict : ON
  | [d], h => match listOf1 d h with
    | some xs => match prsN xs with
      | some ps => some (.ref h.length, h ++ [.dtt (mrgN ps)])
      | none => none
    | none => none
  | _, _ => none
/-- the pairs of a dict, be it still or not -/
def tdO : O → Option (List (D × D))
  | .dtt kvs => some kvs
  | .dtz kvs => some kvs
  | _ => none
def vDGetT : O2
  | .ref n, e, h => match h[n]?.bind tdO, keyN e with
    | some kvs, some k => (getN kvs k).map fun v => (v, h)
    | _, _ => none
  | _, _, _ => none
def vLenT : ON
  | [.ref n], h => match h[n]?.bind tdO with
    | some kvs => some (.int kvs.length, h)
    | _ => none
  | _, _ => none
theorem keyN_ok {d : D} {k : NestedKey} (h : keyN d = some k) : nkD d = some k ∧ k.depth ≤ 8 ∧ ∃ xs, d = .tup xs := by
  cases d with
  | tup xs =>
    unfold keyN at h
    simp only at h
    cases q : nkDs xs with
    | none => rw [q] at h; cases h
    | some ks =>
      rw [q] at h
      simp only [Option.bind_some] at h
      split at h
      · rename_i z
        cases h
        exact ⟨by simp only [nkD, q, Option.map_some], z, xs, rfl⟩
      · cases h
  | _ => cases h
section
variable {X : Cx} {cl : CW} {pins : List (Addr × Obj)} {σ : Sg} {H : Hp} {s : Shared} {mu : List Addr}
mutual
theorem nk_is (I : Inv X pins σ H s) : ∀ (d : D) (v : V) (u : Value) (k : NestedKey), Rp X.K H mu d v → RelV v u → nkD d = some k → NestedIs s.heap k u
  | .non, _, _, _, r, e, q => by cases r; cases e; simp only [nkD] at q; cases q; exact .none
  | .bl b, _, _, _, r, e, q => by cases r; cases e; simp only [nkD] at q; cases q; exact .bool rfl
  | .int i, _, _, _, r, e, q => by cases r; obtain ⟨t, rfl⟩ := e; simp only [nkD] at q; cases q; exact .int _ _
  | .str x, _, _, _, r, e, q => by cases r; obtain ⟨t, rfl⟩ := e; simp only [nkD] at q; cases q; exact .text _ _
  | .ref _, _, _, _, _, _, q => by simp only [nkD] at q; cases q
  | .sl _, _, _, _, _, _, q => by simp only [nkD] at q; cases q
  | .tup xs, _, u, k, r, e, q => by
    cases r with
    | tup st ra =>
      simp only [nkD] at q
      cases q1 : nkDs xs with
      | none => rw [q1] at q; cases q
      | some ks =>
        rw [q1] at q
        cases q
        cases e
        obtain ⟨its, rv, ⟨o, ho, hc, n, hd⟩, _⟩ := I.tuple st
        exact .tup ho hc hd (nk_all I xs _ its ks ra rv q1)
theorem nk_all (I : Inv X pins σ H s) : ∀ (ds : List D) (vs : List V) (us : List Value) (ks : List NestedKey), RpA X.K H mu ds vs → Vals vs us → nkDs ds = some ks → NestedAll s.heap ks us
  | [], _, _, _, .nil, .nil, q => by simp only [nkDs] at q; cases q; exact .nil
  | d :: ds, _, _, ks, .cons a b, .cons e t, q => by
    simp only [nkDs] at q
    cases q1 : nkD d with
    | none => rw [q1] at q; cases q
    | some k =>
      rw [q1] at q
      simp only [Option.bind_some] at q
      cases q2 : nkDs ds with
      | none => rw [q2] at q; cases q
      | some ks' =>
        rw [q2] at q
        cases q
        exact .cons (nk_is I d _ _ k a e q1) (nk_all I ds _ _ ks' b t q2)
end
theorem keys_is (I : Inv X pins σ H s) : ∀ {kvs : List (D × D)} {xs : List (NestedKey × Addr × Value)}, Paired (KeyR X.K H mu) kvs xs → ∀ x ∈ xs, (nestedKind X.prog X.w).is s.heap x.1 x.2.1
  | _, _, .nil, x, hx => by cases hx
  | _, _, .cons a b, x, hx => by
    rcases List.mem_cons.mp hx with rfl | hx
    · obtain ⟨z1, z2, z3, _⟩ := a
      exact ⟨nk_is I _ _ _ _ z3 rfl z1, z2⟩
    · exact keys_is I b x hx
theorem td_ok (I : Inv X pins σ H s) (hw : cl.w = X.w) {a : Addr} {kvs : List (D × D)} {xs : List (NestedKey × Addr × Value)} (h1 : ObjOk X.prog X.w H s.heap a (TDx cl.w a xs)) (h2 : (xs.map (·.1)).Nodup) (h5 : Paired (KeyR X.K H mu) kvs xs) : s.heap.DictOfH (nestedKind X.prog X.w) a xs := by
  have z : ObjOk X.prog X.w H s.heap a (.ext fun h => ∃ o es ep, h.get? a = some o ∧ o.ExactDict ∧ o.data = .dict es ep ∧ es.toList = xs.map fun x => (⟨x.1.hash cl.w, .ref x.2.1, x.2.2⟩ : DictEntry)) := h1
  obtain ⟨⟨o, es, ep, q1, q2, q3, q4⟩, _, _⟩ := z
  rw [hw] at q4
  exact ⟨o, es, ep, q1, q2, q3, q4, keys_is I h5, h2⟩
theorem td_at (I : Inv X pins σ H s) (hw : cl.w = X.w) {h : Hs} {n : Nat} {A : Addr} {kvs : List (D × D)} (hr : HR X.K H mu cl h) (q : h[n]?.bind tdO = some kvs) (hn : mu[n]? = some A) : ∃ xs, s.heap.DictOfH (nestedKind X.prog X.w) A xs ∧ Paired (KeyR X.K H mu) kvs xs ∧ kvs.length ≤ sizeLine ∧ (A == sysModules) = false := by
  cases q9 : h[n]? with
  | none => rw [q9] at q; cases q
  | some ob =>
    rw [q9] at q
    cases ob with
    | dtt ks =>
      cases q
      obtain ⟨A', hA, xs, g1, g2, g3, g4, g5⟩ := hr.at q9
      rw [hn] at hA; cases hA
      exact ⟨xs, td_ok I hw (I.hok _ _ g1) g2 g5, g5, g3, g4⟩
    | dtz ks =>
      cases q
      obtain ⟨A', hA, xs, ⟨o, g1⟩, g2, g3, g4, g5⟩ := hr.at q9
      rw [hn] at hA; cases hA
      exact ⟨xs, td_ok I hw (I.hok _ _ g1).2 g2 g5, g5, g3, g4⟩
    | lst _ => cases q
    | otp _ => cases q
    | dct _ => cases q
    | ins _ _ => cases q
    | xob _ _ => cases q
theorem paired_app {α β : Type} {R : α → β → Prop} : ∀ {l l' : List α} {m m' : List β}, Paired R l m → Paired R l' m' → Paired R (l ++ l') (m ++ m')
  | _, _, _, _, .nil, h => h
  | _, _, _, _, .cons a b, h => .cons a (paired_app b h)
theorem getN_at {k : NestedKey} : ∀ {kvs : List (D × D)} {xs : List (NestedKey × Addr × Value)}, Paired (KeyR X.K H mu) kvs xs → (getN kvs k = none ∧ atKey xs k = none) ∨ ∃ d p v, getN kvs k = some d ∧ atKey xs k = some p ∧ RelV v p.2 ∧ Rp X.K H mu d v
  | _, _, .nil => .inl ⟨rfl, rfl⟩
  | _, _, @Paired.cons _ _ _ p q ps qs a b => by
    obtain ⟨z1, z2, z3, v, z4, z5⟩ := a
    by_cases e : q.1 = k
    · right
      refine ⟨p.2, q.2, v, ?_, ?_, z4, z5⟩
      · unfold getN
        rw [List.find?_cons_of_pos (by rw [z1, e]; simp)]
        rfl
      · unfold atKey
        rw [List.find?_cons_of_pos (by simpa using e)]
        rfl
    · have n1 : getN (p :: ps) k = getN ps k := by
        unfold getN
        rw [List.find?_cons_of_neg (by rw [z1]; simpa using e)]
      have n2 : atKey (q :: qs) k = atKey qs k := by
        unfold atKey
        rw [List.find?_cons_of_neg (by simpa using e)]
      rw [n1, n2]
      exact getN_at b
theorem setN_ok {k : NestedKey} {d v : D} {b : Addr} {u : Value} {kvs : List (D × D)} {xs : List (NestedKey × Addr × Value)} (h : Paired (KeyR X.K H mu) kvs xs) (new : KeyR X.K H mu (d, v) (k, b, u)) : Paired (KeyR X.K H mu) (setN kvs k d v) (storedH xs k b u) := by
  obtain ⟨y1, y2, y3, y4⟩ := new
  rcases getN_at (k := k) h with ⟨g1, g2⟩ | ⟨d', p, v', g1, g2, _⟩
  · unfold setN
    rw [g1, storedH_new g2, if_neg (by simp)]
    exact paired_app h (.cons ⟨y1, y2, y3, y4⟩ .nil)
  · unfold setN
    rw [g1, storedH_old g2, if_pos (by simp)]
    clear g1 g2
    induction h with
    | nil => exact .nil
    | @cons p q ps qs a _ ih =>
      refine .cons ?_ ih
      obtain ⟨z1, z2, z3, z4⟩ := a
      by_cases e : q.1 = k
      · have e1 : nkD p.1 = some k := by rw [z1, e]
        show KeyR X.K H mu (if nkD p.1 = some k then (p.1, v) else p) (putAt k u q)
        unfold putAt
        rw [if_pos e1, if_pos e]
        exact ⟨z1, z2, z3, y4⟩
      · have e1 : ¬ nkD p.1 = some k := by rw [z1]; simpa using e
        show KeyR X.K H mu (if nkD p.1 = some k then (p.1, v) else p) (putAt k u q)
        unfold putAt
        rw [if_neg e1, if_neg e]
        exact ⟨z1, z2, z3, z4⟩
theorem mrg_ok : ∀ {ps : List (NestedKey × D × D)} {qs : List (NestedKey × Addr × Value)} {kvs : List (D × D)} {xs : List (NestedKey × Addr × Value)}, Paired (fun (p : NestedKey × D × D) q => p.1 = q.1 ∧ KeyR X.K H mu p.2 q) ps qs → Paired (KeyR X.K H mu) kvs xs →
    Paired (KeyR X.K H mu) (ps.foldl (fun acc p => setN acc p.1 p.2.1 p.2.2) kvs) (storedAllH xs qs)
  | _, _, _, _, .nil, h => h
  | _, _, _, xs, @Paired.cons _ _ _ p q ps qs a b, h => by
    obtain ⟨e, n⟩ := a
    have st := setN_ok (k := p.1) (d := p.2.1) (v := p.2.2) (b := q.2.1) (u := q.2.2) h (by rw [e]; exact n)
    have e' : storedH xs p.1 q.2.1 q.2.2 = storedH xs q.1 q.2.1 q.2.2 := by rw [e]
    rw [e'] at st
    have r := mrg_ok b st
    exact r
/-- the pairs that a list holds -/
theorem prs_of (I : Inv X pins σ H s) : ∀ {ds : List D} {vs : List V} {us : List Value} {ps : List (NestedKey × D × D)}, RpA X.K H mu ds vs → Vals vs us → prsN ds = some ps →
    ∃ (qs : List (NestedKey × Addr × Value)) (Ts : List Addr), Paired (fun (p : NestedKey × D × D) q => p.1 = q.1 ∧ KeyR X.K H mu p.2 q) ps qs ∧ us = Ts.map .ref ∧ Paired (fun (q : NestedKey × Addr × Value) T => PairAt s.heap T (.ref q.2.1) q.2.2) qs Ts
  | [], _, _, _, .nil, .nil, q => by cases q; exact ⟨[], [], .nil, rfl, .nil⟩
  | d :: ds, _, _, ps, .cons a b, .cons e t, q => by
    obtain ⟨k, v, nk, ps', rfl, q1, q2, rfl⟩ := prsN_cons q
    obtain ⟨qs, Ts, r1, r2, r3⟩ := prs_of I b t q2
    obtain ⟨kk, kd, ks, rfl⟩ := keyN_ok q1
    cases a with
    | @tup A xs es st ra =>
      cases ra with
      | cons rk ra2 =>
        cases ra2 with
        | cons rv ra3 =>
          cases ra3
          cases rk with
          | @tup B ys _ sb rb =>
            cases e
            obtain ⟨its, rvs, ⟨o, ho, hc, n, hd⟩, _⟩ := I.tuple st
            cases rvs with
            | @cons _ u1 _ _ w1 w2 =>
              cases w2 with
              | @cons _ u2 _ _ w3 w4 =>
                cases w4
                obtain rfl : u1 = Value.ref B := w1
                exact ⟨(nk, B, u2) :: qs, A :: Ts, .cons ⟨rfl, kk, kd, .tup sb rb, _, w3, rv⟩ r1, by rw [r2]; rfl, .cons (.inl ⟨o, ho, hc, n, hd⟩) r3⟩
theorem paired_len {α β : Type} {R : α → β → Prop} {l : List α} {m : List β} (h : Paired R l m) : l.length = m.length := Paired.length h
theorem paired_at {α β : Type} {R : α → β → Prop} : ∀ {l : List α} {m : List β} {j : Nat} {x : α}, Paired R l m → l[j]? = some x → ∃ y, m[j]? = some y ∧ R x y
  | _, _, _, _, .nil, h => by cases h
  | _, _, 0, _, .cons a b, h => by cases h; exact ⟨_, rfl, a⟩
  | _, _, j + 1, x, .cons a b, h => by
    obtain ⟨y, h1, h2⟩ := paired_at (j := j) b (by simpa using h)
    exact ⟨y, by simpa using h1, h2⟩
theorem setN_len (kvs : List (D × D)) (k : NestedKey) (d v : D) : (setN kvs k d v).length ≤ kvs.length + 1 := by
  unfold setN
  split
  · rw [List.length_map]; omega
  · rw [List.length_append]; exact Nat.le_refl _
theorem mrg_len : ∀ (ps : List (NestedKey × D × D)) (kvs : List (D × D)), (ps.foldl (fun acc p => setN acc p.1 p.2.1 p.2.2) kvs).length ≤ kvs.length + ps.length
  | [], kvs => Nat.le_refl _
  | p :: ps, kvs => by
    have h1 := mrg_len ps (setN kvs p.1 p.2.1 p.2.2)
    have h2 := setN_len kvs p.1 p.2.1 p.2.2
    rw [List.foldl_cons, List.length_cons]
    omega
theorem prs_len : ∀ {ds : List D} {ps : List (NestedKey × D × D)}, prsN ds = some ps → ps.length = ds.length
  | [], _, h => by cases h; rfl
  | d :: ds, ps, h => by
    obtain ⟨k, v, nk, ps', rfl, q1, q2, rfl⟩ := prsN_cons h
    rw [List.length_cons, List.length_cons, prs_len q2]
theorem tdx_ok {w : World} {h : Heap} {a : Addr} {xs : List (NestedKey × Addr × Value)} {H' : Hp} (hw : w = X.w) (dd : h.DictOfH (nestedKind X.prog X.w) a xs) : ObjOk X.prog X.w H' h a (TDx w a xs) := by
  obtain ⟨o, es, ep, q1, q2, q3, q4, _⟩ := dd
  subst hw
  exact ⟨⟨o, es, ep, q1, q2, q3, q4⟩, ⟨o, q1⟩, fun h1 h2 ⟨o, es, ep, q1, q2⟩ k => ⟨o, es, ep, k _ q1, q2⟩⟩
end
section
variable {X : Cx} {cl : CW} {W : WX} {a b c e o i : Expr} {ma mb : ME} {pos p : Pos}
theorem b_dict (hw : cl.w = X.w) (hc : X.calm = true) (hu : X.A.units + 64 < cLine) : CallR X (.type "dict") (rN X.K cl vDict) := by
  intro pins s σ H xs us Q I r ⟨mu, h, ds, hr, ra, p⟩
  cases ra with
  | nil => exact p.elim
  | @cons d v _ _ rd rest =>
    cases rest with
    | cons _ _ => exact p.elim
    | nil =>
      obtain ⟨u, rfl, rv⟩ := vals1 r
      unfold vDict at p
      simp only at p
      cases q : listOf1 d h with
      | none => rw [q] at p; exact p.elim
      | some zs =>
        rw [q] at p
        simp only at p
        cases q2 : prsN zs with
        | none => rw [q2] at p; exact p.elim
        | some ps =>
          rw [q2] at p
          simp only at p
          obtain ⟨a, ys, rfl, hs, rz⟩ := listOf1_ok hr rd q
          obtain rfl : u = Value.ref a := rv
          obtain ⟨its, rvs, hl, hz⟩ := I.list hs
          obtain ⟨qs, Ts, k1, k2, k3⟩ := prs_of I rz rvs q2
          have lq : ps.length = qs.length := paired_len k1
          have lT : qs.length = Ts.length := paired_len k3
          have lz := prs_len q2
          have hm : (s.heap.objs.size == sysModules) = false := beq_eq_false_iff_ne.mpr (Nat.ne_of_gt I.big)
          obtain ⟨o, n, ho, hcl, hdi, hdat⟩ := hl
          have len0 : (qs.map fun x => (Value.ref x.2.1, x.2.2)).length = qs.length := List.length_map ..
          refine call_dict_pairsH (knd := nestedKind X.prog X.w) (ps := qs) (PairArg.list a its.toArray (fun j => Ts.getD j 0) (qs.map fun x => (Value.ref x.2.1, x.2.2))) (I.ok.hd hc) (show X.A.units + 1 + 1 + 8 < cLine by omega) ⟨⟨o, n, ho, hcl, hdi, hdat⟩, ?_, ?_⟩ ⟨len0.symm, ?_⟩ ?_ ?_ ?_
          · rw [k2, len0, lT]; simp
          · intro j kk vv hj
            rw [List.getElem?_map] at hj
            cases hq : qs[j]? with
            | none => rw [hq] at hj; cases hj
            | some y =>
              rw [hq] at hj
              cases hj
              obtain ⟨T, hT, pa⟩ := paired_at k3 hq
              have hg : Ts.getD j 0 = T := by rw [List.getD_eq_getElem?_getD, hT]; rfl
              refine ⟨?_, by show PairAt s.heap (Ts.getD j 0) _ _; rw [hg]; exact pa⟩
              show its.toArray[j]? = some (Value.ref (Ts.getD j 0))
              rw [k2, hg]
              simp [hT]
          · intro j key vv hj
            have hj' : (qs.map fun x => (Value.ref x.2.1, x.2.2))[j]? = some (key, vv) := hj
            rw [List.getElem?_map] at hj'
            cases hq : qs[j]? with
            | none => rw [hq] at hj'; cases hj'
            | some y =>
              rw [hq] at hj'
              cases hj'
              exact ⟨y.1, y.2.1, rfl, rfl⟩
          · intro h' hk x hx
            have kr : ∀ {ps : List (NestedKey × D × D)} {qs : List (NestedKey × Addr × Value)}, Paired (fun (p : NestedKey × D × D) q => p.1 = q.1 ∧ KeyR X.K H mu p.2 q) ps qs → ∀ x ∈ qs, (nestedKind X.prog X.w).is s.heap x.1 x.2.1 := by
              intro ps qs hp
              induction hp with
              | nil => intro x hx; cases hx
              | cons a _ ih =>
                intro x hx
                rcases List.mem_cons.mp hx with rfl | hx
                · obtain ⟨_, z1, z2, z3, _⟩ := a
                  exact ⟨nk_is I _ _ _ _ z3 rfl z1, z2⟩
                · exact ih x hx
            exact nestedKind_stays.stays (fun b ob vs m hb hc2 => hk b ob (Nat.ne_of_lt (Heap.lt_size hb)) (fun z => nomatch z) hb) (kr k1 x hx)
          · rw [len0, ← lq, lz, rz.length]; exact hz
          · intro h' tk dd kp
            have fr : H s.heap.objs.size = none := I.hok.fresh (Nat.le_refl _)
            have M : Ext H mu (upd H s.heap.objs.size (TDx cl.w s.heap.objs.size (storedAllH [] qs))) (mu ++ [s.heap.objs.size]) := Ext.allocd fr
            refine ⟨.ref s.heap.objs.size, upd H s.heap.objs.size (TDx cl.w s.heap.objs.size (storedAllH [] qs)), I.laid (t' := tk) (fun b o e => kp b o (fun z => nomatch z) e) (Nat.le_refl _) (tdx_ok hw dd), rfl, ?_⟩
            have pr : Paired (KeyR X.K H mu) (mrgN ps) (storedAllH [] qs) := mrg_ok k1 .nil
            have nd : ((storedAllH [] qs).map (·.1)).Nodup := dd.nodup
            refine p _ _ _ M (hr.allocd fr ⟨_, upd_same, nd, ?_, hm, Paired.mapP pr fun _ _ ⟨z1, z2, z3, v, z4, z5⟩ => ⟨z1, z2, z3.mono M, v, z4, z5.mono M⟩⟩) (.ref ?_)
            · have := mrg_len ps []
              have e0 : (mrgN ps).length ≤ ps.length := by simpa [mrgN] using this
              rw [lz, rz.length] at e0
              exact Nat.le_trans e0 hz
            · rw [← hr.len]; simp
theorem se_dgetT (hw : cl.w = X.w) (hu : X.A.units + 64 < cLine) (ha : SE X cl W a ma) (hb : SE X cl W b mb) (hs : NoSl b := by exact fun _ _ => rfl) : SE X cl W (.Subscript a b pos) (eOp2 vDGetT ma mb) := by
  refine ⟨fun pins s σ H Q I h => ?_⟩
  have h' := step2 σ H Q h
  refine subD_of PySem.F.slot_dict_getitem.lookup hs (thn (ha.run pins s σ H _ I h') fun u s1 ⟨x, H1, I1, rx, q1⟩ => thn (hb.run pins s1 σ H1 _ I1 q1) fun iv s2 ⟨y, H2, I2, ry, mu, hh, d, e, hr, rd, re, p⟩ => ?_)
  unfold vDGetT at p
  cases d with
  | ref n =>
    simp only at p
    cases q9 : hh[n]?.bind tdO with
    | none => rw [q9] at p; exact p.elim
    | some kvs =>
      rw [q9] at p
      cases q2 : keyN e with
      | none => rw [q2] at p; exact p.elim
      | some k =>
        rw [q2] at p
        simp only at p
        cases rd with
        | @ref _ A hn =>
          obtain ⟨xs, dd, g5, _, _⟩ := td_at I2 hw hr q9 hn
          obtain rfl : u = Value.ref A := rx
          obtain ⟨kk, kd, es, rfl⟩ := keyN_ok q2
          cases re with
          | @tup B zs _ sb rb =>
            obtain rfl : iv = Value.ref B := ry
            rcases getN_at (k := k) g5 with ⟨n1, n2⟩ | ⟨dv, pr, v, n1, n2, n3, n4⟩
            · rw [n1] at p; exact p.elim
            · rw [n1] at p
              refine ⟨dd.typeIs, wpAny_getItem_heap (knd := nestedKind X.prog X.w) (show X.A.units + 1 + 8 < cLine by omega) ⟨nk_is I2 (.tup es) (.ref B) _ k (.tup sb rb) rfl kk, kd⟩ dd n2 ⟨v, H2, I2.tok _, n3, ?_⟩⟩
              exact p _ _ _ (Ext.refl _ _) hr n4
  | non => exact p.elim
  | bl _ => exact p.elim
  | int _ => exact p.elim
  | str _ => exact p.elim
  | tup _ => exact p.elim
  | sl _ => exact p.elim
theorem len_rawR {prog : Program} {w : World} {A : Around} {E : Value → Shared → Prop} {s : Shared} {d : Addr} {es : Array DictEntry} {ep : Nat} {Q : Value → Shared → Prop} (hd : (d == sysModules) = false) (hm : s.heap.DictRaw d es ep) (hfit : (es.size : Int) < 2 ^ 63) (hT : s.TypeIs (.ref d) "dict")
    (q : Q (.int es.size (s.toks + 1)) { s with toks := s.toks + 1 + 1 }) : wpAny (model prog w) A (call (.builtin "len") [.ref d]) Q E s := by
  refine Calls.call_function_entry kind_len plain_len entry_len (args_len1 _) ?_
  unfold Builtin.«len»
  refine wpAny_bind (m := oneArg "len" _) (wpAny_pure (wpAny_bind (wpAny_callSpecial?_slot (name := Str.ofString "__len__") hT F.slot_dict_len (call_len_raw hd hm ?_))))
  refine wpAny_bind (wpAny_holding (wpAny_pure (wpAny_bind (wpAny_letGo ?_))))
  show wpAny _ _ (if ((es.size : Nat) : Int) < 0 then _ else if ((es.size : Nat) : Int) ≥ 2 ^ 63 then _ else _) _ _ _
  rw [if_neg (show ¬ ((es.size : Nat) : Int) < 0 by omega), if_neg (show ¬ ((es.size : Nat) : Int) ≥ 2 ^ 63 by omega)]
  exact wpAny_bind (wpAny_mkInt (wpAny_pure ⟨_, rfl, q⟩))
theorem b_lenT (hw : cl.w = X.w) : CallR X (.builtin "len") (rN X.K cl vLenT) := by
  intro pins s σ H xs us Q I r ⟨mu, h, ds, hr, ra, p⟩
  cases ra with
  | nil => exact p.elim
  | @cons d v _ _ rd rest =>
    cases rd with
    | @ref n A hn =>
      cases rest with
      | cons _ _ => exact p.elim
      | nil =>
        obtain ⟨u, rfl, rv⟩ := vals1 r
        unfold vLenT at p
        simp only at p
        cases q1 : h[n]?.bind tdO with
        | none => rw [q1] at p; exact p.elim
        | some kvs =>
          rw [q1] at p
          obtain ⟨xs, dd, g5, g3, g4⟩ := td_at I hw hr q1 hn
          obtain rfl : u = Value.ref A := rv
          obtain ⟨o, es, ep, z1, z2, z3, z4, _⟩ := id dd
          have sz : es.size = kvs.length := by rw [paired_len g5, ← Array.length_toList, z4, List.length_map]
          refine len_rawR g4 ⟨o, z1, z2, z3⟩ ?_ dd.typeIs ⟨.int es.size, H, I.tok _, ⟨_, rfl⟩, ?_⟩
          · rw [sz]
            have : sizeLine = 16777216 := by decide
            omega
          · rw [sz]
            exact p _ _ _ (Ext.refl _ _) hr (.int _)
    | non => cases rest <;> exact p.elim
    | bl _ => cases rest <;> exact p.elim
    | int _ => cases rest <;> exact p.elim
    | str _ => cases rest <;> exact p.elim
    | tup _ _ => cases rest <;> exact p.elim
    | sl _ _ => cases rest <;> exact p.elim
end
end DS

set_option Elab.async false
set_option linter.all false
set_option maxRecDepth 100000
set_option maxHeartbeats 4000000
/-! DXE: exceptions of the program's own. -/
namespace DS
open PySem PySem.Spec PyProof.Rows L2
/-- what is read of the class above: its __init__ is ValueError's -/
structure AbC (K : PySem.W.Frag) (C : Addr) : Prop where
  sp : PySem.W.specialIn K (.ref C) "__getattribute__" = some (some (.builtin "type.__getattribute__"))
  rd : PySem.W.readsIn K C (.type "type") = true
  fi : PySem.W.findCls K (.ref C) (.type "type") "__init__" = some (.val (.builtin "ValueError.__init__"))
section
variable {X : Cx} {e : Expr} {es : List Expr} {ta : TA} {x : Str} {C : Addr} {p1 p2 pos : Pos}
theorem pe_abinit {pl : Sem Bool} (T : AbC X.K C) (gl : Gl X x) (gm : X.mg x = some (.ref C)) (args : PA X (e :: es) ta) (hdb : (x == ("__debug__" : Str)) = false := by decide)
    (call : eval (.Call (.Attribute (.Name x p1) "__init__" p2) (e :: es) [] pos) X.env = (do
      let w ← eval (.Name x p1) X.env
      standAt p2.atName
      let (g, first) ← holding [w] (getMethod w "__init__" pl)
      callWith pos g first (backTo pos (starEach (e :: es) X.env)) (backToKw pos (keywordEach [] X.env))) := by rfl)
    (star : starEach (e :: es) X.env = (false, eval e X.env) :: starEach es X.env := by rfl) (plain : (backTo pos (starEach es X.env)).any (·.1) = false := by rfl) :
    PE X (.Call (.Attribute (.Name x p1) "__init__" p2) (e :: es) [] pos) (tVeI X.K ta) :=
  ⟨fun pins s σ H Q I h => by
    refine PySem.W.methodCall_KW (ld_glob I gl gm ?_ hdb) call
    refine PySem.W.method_cls I.kIn T.sp (PySem.W.cls_value I.kIn T.rd T.fi (by decide +kernel) ?_)
    refine PyProof.Rows.callWith_method1 (thn (args.run pos pins _ σ H _ (I.tok _) h) fun us s1 hh => ?_) star plain
    obtain ⟨vs, H1, I1, r1, a, D, ws, rfl, hl, TC, ea, q⟩ := hh
    cases r1 with
    | @cons _ u _ ur ra rr =>
      obtain rfl : u = Value.ref a := ra
      exact oinit_ok TC I1 ea (by rw [← Paired.length rr, sizeLine_eq]; omega) fun s' J => ⟨.non, H1, J, rfl, q⟩⟩
end
/-! ### an own __init__ that keeps its arguments -/
/-- the promise: the fields fs, in the exception's own dict -/
def spX (K : PySem.W.Frag) (C : Addr) (fs : List Str) : Sp := fun vs H Q _ => ∃ a ws, vs = .ref a :: ws ∧ ws.length = fs.length ∧ OexC K C ∧ H a = some (exo a C none) ∧
  ∀ dx, H dx = none → dx ≠ a → Q .non (upd (upd H dx (exd dx (fs.zip ws).reverse)) a (exo a C (some dx)))
theorem spX_len {K : PySem.W.Frag} {C : Addr} {fs : List Str} : ∀ vs H Q E, spX K C fs vs H Q E → vs.length = (("self" : Str) :: fs).length := fun vs H Q E ⟨a, ws, e, l, _⟩ => by
  rw [e, List.length_cons, List.length_cons, l]
section
variable {P : Program} {w : World} {K : PySem.W.Frag} {mg : Str → Option Value} {base : Heap}
/-- what is known of a class of exceptions with the fields fs -/
def ExS (P : Program) (w : World) (K : PySem.W.Frag) (mg : Str → Option Value) (base : Heap) (C : Addr) (x : Str) (fs : List Str) : Prop :=
  ∃ fI fd, OexC K C ∧ PySem.W.findIn K (.ref C) "__init__" = some (some (.ref fI)) ∧ PySem.W.typeIn K (.ref fI) = some (.type "function") ∧ FnOk P w K mg base L2.CX0 1 fI fd (("self" : Str) :: fs) (spX K C fs) ∧ L2.Binds K fd (("self" : Str) :: fs) [] ∧ mg x = some (.ref C)
/-- its body's walk: one field -/
theorem init1 {qual f : Str} {st : Stmt} {C fI : Addr} {fd : FuncData} {s1 s2 : Stmt} (F : Fun K "__init__" qual st fI fd) (S : FnScope [("self" : Str), f] [("self" : Str), f] (defScope st)) (hb : defBody st = [s1, s2]) (hno : PySem.W.findIn K (.ref C) f = some none)
    (h1 : ∀ (cdv : Value) (A : Around) (outer : List Env) (s : Shared) (H : Hp) (E : XK), PS (cxOf L2.CX0 P w K mg base [("self" : Str), f] qual (defScope st) fI cdv A outer s H E).nox s1 (fun D σ H => ∃ a : Addr, σ[0]? = some (some (.ref a)) ∧ OexC K C ∧ H a = some (exo a C none) ∧ D.nx σ H))
    (h2 : ∀ (cdv : Value) (A : Around) (outer : List Env) (s : Shared) (H : Hp) (E : XK), PS (cxOf L2.CX0 P w K mg base [("self" : Str), f] qual (defScope st) fI cdv A outer s H E).nox s2 (tOst K f (fun σ H Q => ∃ v, σ[0]? = some (some v) ∧ Q v H) (fun σ H Q => ∃ v, σ[1]? = some (some v) ∧ Q v H))) :
    FnOk P w K mg base L2.CX0 1 fI fd [("self" : Str), f] (spX K C [f]) := by
  refine F.ok (k := 0) S spX_len fun cdv A outer s H vs Q E hr ⟨a, ws, e, l, T, ha, q⟩ => ?_
  match ws, l with
  | [v], _ =>
    subst e
    rw [hb]
    refine ⟨_, pss_cons (h1 cdv A outer s H E) (pss_one (h2 cdv A outer s H E)), ?_⟩
    exact ⟨a, rfl, T, ha, v, rfl, .ref a, rfl, a, C, rfl, T, hno, .inl ⟨ha, fun dx n ne => q dx n ne⟩⟩
/-- .. its first statement's reading, told shortly -/
theorem ab1 {X : Cx} {st : Stmt} {C : Addr} {tx : Str} (h : PS X st (fun D σ H => tVeI X.K (fun σ H Q => ∃ v, σ[0]? = some (some v) ∧ Q [v, .str tx] H) σ H fun _ H1 => D.nx σ H1)) : PS X st (fun D σ H => ∃ a : Addr, σ[0]? = some (some (.ref a)) ∧ OexC X.K C ∧ H a = some (exo a C none) ∧ D.nx σ H) :=
  PS.imp h fun D σ H ⟨a, h0, T, ha, q⟩ => ⟨.ref a, h0, a, C, [.str tx], rfl, (show 1 ≤ 1000 by decide), T, ha, q⟩
end
/-! ### what the written part says of such classes -/
def xcB (K : PySem.W.Frag) (C : Addr) : Bool := (match K.lookup C with
  | some ⟨.type "type", _, .cls cd, sl⟩ => (match cd.mro, sl.toList with
    | .ref C' :: bm, [_, _, _, _, some (.builtin n), _] => C' == C && (n == "ValueError.__new__" && (!cd.hasDel && (cd.hasDict && PySem.HandSPX.refsVE bm)))
    | _, _ => false)
  | _ => false) && (decide (PySem.W.findIn K (.ref C) "__setattr__" = some (some (.builtin "object.__setattr__"))) && (decide (PySem.W.subIn K (.ref C) (.type "BaseException") = some true) && (decide (PySem.W.typeIn K (.ref C) = some (.type "type")) && PySem.W.keepIn K (.ref C))))
theorem xcB_ok {K : PySem.W.Frag} {C : Addr} (h : xcB K C = true) : OexC K C := by
  unfold xcB at h
  rw [Bool.and_eq_true, Bool.and_eq_true, Bool.and_eq_true, Bool.and_eq_true] at h
  obtain ⟨q, h1, h2, h3, h4⟩ := h
  refine ⟨?_, of_decide_eq_true h1, of_decide_eq_true h2, of_decide_eq_true h3, h4⟩
  split at q
  · rename_i dd cd sl lo
    split at q
    · rename_i C' bm k0 k1 k2 k3 n k5 mr sq
      simp only [Bool.and_eq_true, beq_iff_eq, Bool.not_eq_true'] at q
      obtain ⟨rfl, rfl, z1, z2, z3⟩ := q
      obtain ⟨f1, f2, f3, f4, f5, f6, f7, f8, f9, f10, f11⟩ := cd
      dsimp only at mr z1 z2
      subst mr z1 z2
      obtain ⟨l⟩ := sl
      dsimp only at sq
      subst sq
      exact ⟨_, _, _, _, bm, _, _, _, _, _, k0, k1, k2, k3, k5, lo, z3⟩
    · cases q
  · cases q
def abB (K : PySem.W.Frag) (C : Addr) : Bool := decide (PySem.W.specialIn K (.ref C) "__getattribute__" = some (some (.builtin "type.__getattribute__"))) && (PySem.W.readsIn K C (.type "type") && (match PySem.W.findCls K (.ref C) (.type "type") "__init__" with
  | some (.val (.builtin n)) => n == "ValueError.__init__"
  | _ => false))
theorem abB_ok {K : PySem.W.Frag} {C : Addr} (h : abB K C = true) : AbC K C := by
  unfold abB at h
  rw [Bool.and_eq_true, Bool.and_eq_true] at h
  refine ⟨of_decide_eq_true h.1, h.2.1, ?_⟩
  have h3 := h.2.2
  split at h3
  · rename_i n e
    rw [e, eq_of_beq h3]
  · cases h3
/-! ### raise -/
def sRaise (c : Nat) (fs : List Str) (a : MA) : MS := fun env h => ofR env (a env h) fun ds h1 => if ds.length = fs.length then .exc ⟨c, (fs.zip ds).reverse⟩ env h1 else .bad
theorem zip_rp {K : PySem.W.Frag} {H : Hp} {mu : List Addr} : ∀ {fs : List Str} {ds : List D} {vs : List V}, RpA K H mu ds vs → RpP K H mu (fs.zip ds) (fs.zip vs)
  | [], _, _, _ => by simp; exact .nil
  | _ :: _, _, _, .nil => by simp; exact .nil
  | f :: fs, _, _, .cons a b => by
    rw [List.zip_cons_cons, List.zip_cons_cons]
    exact .cons ⟨rfl, a⟩ (zip_rp b)
theorem paired_rev {α β : Type} {R : α → β → Prop} : ∀ {l : List α} {m : List β}, Paired R l m → Paired R l.reverse m.reverse
  | _, _, .nil => .nil
  | _, _, .cons a b => by
    rw [List.reverse_cons, List.reverse_cons]
    exact paired_app (paired_rev b) (.cons a .nil)
section
variable {X : Cx} {cl : CW} {W : WX} {gd : Bool} {c : Nat} {x : Str} {fs : List Str} {e : Expr} {es : List Expr} {ms : MA} {p pos pos' : Pos}
theorem ss_raise (E : ExS X.prog X.w X.K X.mg X.base (cl c) x fs) (hc : X.calm = true) (tk : Takes X W) (hr : Rm gd 2 X.A) (ha : SA X cl W (e :: es) ms) (hl : fs.length ≤ 10 := by decide) (hg : Gl X x := by rfl) (hdb : (x == ("__debug__" : Str)) = false := by decide)
    (st : starEach (e :: es) X.env = (false, eval e X.env) :: starEach es X.env := by rfl) (pl : (backTo pos' (starEach es X.env)).any (·.1) = false := by rfl) :
    SS X cl W (.Raise (some (.Call (.Name x p) (e :: es) [] pos')) none pos) (sRaise c fs ms) := by
  obtain ⟨fI, fd, T, iC, tI, F1, hb, gm⟩ := E
  refine PS.imp (ps_raise hc tk (pmk_oex T iC tI F1 hr.r hb .nil pass0 hg gm ha hdb st pl)) fun D sg H ⟨mu, env, h, rel, q⟩ => ⟨mu, env, h, rel, (PostS.of rel.er q).mono fun vs H1 ⟨mu1, ds, h1, ex, hr1, rb, p1⟩ => ?_⟩
  split at p1
  · rename_i hlen
    have lv : vs.length = fs.length := by rw [← rb.length]; exact hlen
    refine ⟨by omega, fun a na => ⟨a, vs, by rw [List.append_nil], lv, T, upd_same, fun dx n ne => ⟨rfl, dx, (fs.zip vs).reverse, upd_same, ?_, ?_, ?_⟩⟩⟩
    · rw [upd_ne ne, upd_same]
    · rw [upd_ne ne] at n; exact n
    · rw [upd_ne ne] at n
      have eq : upd (del (upd (upd (upd H1 a (exo a (cl c) none)) dx (exd dx (fs.zip vs).reverse)) a (exo a (cl c) (some dx))) a) dx (.xd (fs.zip vs).reverse) = upd H1 dx (.xd (fs.zip vs).reverse) := by
        funext b
        by_cases h1 : b = dx
        · rw [h1, upd_same, upd_same]
        · rw [upd_ne h1, upd_ne h1]
          by_cases h2 : b = a
          · rw [h2, del_same, na]
          · rw [del_ne h2, upd_ne h2, upd_ne h1, upd_ne h2]
      rw [eq]
      refine p1 _ _ sg _ mu1 (Ext.tupled n) (hr1.tupled n) ((rel.er.mono ex).mono (Ext.tupled n)) ⟨rfl, .inr ⟨dx, _, rfl, hr1.fresh n, upd_same, ?_⟩⟩
      exact RpP.mono (Ext.tupled n) (paired_rev (zip_rp rb))
  · exact p1.elim
end
end DS

set_option Elab.async false
set_option linter.all false
set_option maxRecDepth 100000
set_option maxHeartbeats 4000000
/-! DXL: the law's call with tables of code objects; lambdas. -/
namespace DS
open PySem PySem.Spec PyProof.Rows L2
/-- at the start: nothing tracked but the tables in cs (each empty) and a script that is not of K -/
def At0 (K : PySem.W.Frag) (cs : List (Addr × Addr)) (a : Addr) (H : Hp) : Prop :=
  (∀ p ∈ cs, H p.2 = some (.tbl #[])) ∧ ∀ b, H b = none ∨ (∃ p ∈ cs, p.2 = b) ∨ (b = a ∧ K.lookup a = none ∧ ∃ o xs, H b = some (.frz o (.lst xs)))
/-- what the head leaves of the code objects and their tables -/
structure Cds (K : PySem.W.Frag) (h : Heap) (cs : List (Addr × Addr)) : Prop where
  em : ∀ p ∈ cs, h.get? p.2 = some (PySem.W.tabObj #[])
  no : ∀ p ∈ cs, K.lookup p.2 = none
  hd : ∀ p ∈ cs, PySem.W.CodeHd h p.1 p.2
theorem law_callT {P : Program} {w : World} {K : PySem.W.Frag} {mg mb : Str → Option Value} {k : Nat} {fa a : Addr} {cs : List (Addr × Addr)} {fd : FuncData} {x : Str} {sp : Sp} {s₁ : Shared} {us : List Value} {ns : List Int}
    (kx : K.In s₁.heap) (gn : s₁.heap.Ns mainGlobals mg) (bn : s₁.heap.Ns builtinsNs mb) (bo : ∀ x : Str, x ≠ "__name__" → mb x = bootBuiltins x) (li : s₁.heap.NoLimit) (ge : s₁.gens = #[]) (D : Cds K s₁.heap cs)
    (bm : ∃ (m : Addr) (om : Obj), mg "__builtins__" = some (.ref m) ∧ m ≠ builtinsNs ∧ s₁.heap.get? m = some om ∧ om.cls = .type "module" ∧ om.dict = some builtinsNs ∧ om.data = .plain)
    (ao : s₁.heap.get? a = some { cls := .type "list", data := .seq us.toArray }) (ia : IntsAre us ns) (nl : ns.length ≤ sizeLine) (rm : Room k callerA)
    (F : ∀ base : Heap, K.In base → base.Ns mainGlobals mg → (∀ p ∈ cs, LamX.TabB base mg p.1 p.2) → FnG true P w K mg base k fa fd [x] sp) (bi : ∀ (s : Shared) (u : Value), BindsTo s fd ⟨[u], []⟩ [(x, u)])
    (hs : ∀ H : Hp, At0 K cs a H → SqL K H a (ns.map V.int) → sp [.ref a] H (fun v _ => v = .bl true) fun _ _ _ => False) (cx : ∀ H e s', L2.CX P w [] H s₁ (fun _ _ _ => False) e s' → False) :
    codeAny (model P w) callerA (.call (.ref fa) ⟨[.ref a], []⟩) (fun r s' => r = .ok (.ret (.bool true)) ∧ OldK s₁.heap s'.heap ∧ s'.os = s₁.os ∧ AllBare s'.gens) s₁ := by
  have ant : ¬ ∃ p ∈ cs, p.2 = a := by
    rintro ⟨p, hp, e⟩
    have q := D.em p hp
    rw [e, ao] at q
    exact nomatch congrArg Obj.data (Option.some.inj q)
  have go : ∀ H : Hp, At0 K cs a H → SqL K H a (ns.map V.int) → HOk P w H s₁.heap → codeAny (model P w) callerA (.call (.ref fa) ⟨[.ref a], []⟩) (fun r s' => r = .ok (.ret (.bool true)) ∧ OldK s₁.heap s'.heap ∧ s'.os = s₁.os ∧ AllBare s'.gens) s₁ := by
    intro H a0 hS ok
    have bs : ∀ {b : Addr} {o : Obj}, s₁.heap.get? b = some o → H b = none → (hidT s₁.heap H).get? b = some o := hidT_get
    have un_ : ∀ {b : Addr} {o : Obj}, s₁.heap.get? b = some o → (∀ v n, o.data ≠ .seq v n) → o.data ≠ .fields #[] → H b = none := by
      intro b o e n1 n2
      rcases a0.2 b with q | ⟨p, hp, rfl⟩ | ⟨rfl, _⟩
      · exact q
      · rw [D.em p hp] at e
        cases e
        exact (n2 rfl).elim
      · rw [ao] at e
        cases e
        exact (n1 _ _ rfl).elim
    have nk : ∀ {b : Addr} {m : Str → Option Value}, s₁.heap.Ns b m → (hidT s₁.heap H).Ns b m := by
      rintro b m ⟨o, es, ep, e, d, r⟩
      refine ⟨o, es, ep, bs e (un_ e (fun v n z => ?_) fun z => ?_), d, r⟩ <;> exact nomatch d.symm.trans z
    have kb : K.In (hidT s₁.heap H) := by
      intro b o e
      refine bs (kx b o e) ?_
      rcases a0.2 b with q | ⟨p, hp, rfl⟩ | ⟨rfl, z, _⟩
      · exact q
      · rw [D.no p hp] at e; cases e
      · rw [z] at e; cases e
    obtain ⟨mc, l1, l2⟩ := li
    have md : Mod K mg (hidT s₁.heap H) := ⟨kb, nk gn, ⟨mb, nk bn, bo⟩, ⟨mc, nk l1, l2⟩⟩
    have tb : ∀ p ∈ cs, LamX.TabB (hidT s₁.heap H) mg p.1 p.2 := by
      intro p hp
      have tp := D.em p hp
      refine ⟨?_, ?_, ?_⟩
      · obtain ⟨o, u, f1, f2, f3, f4, f5, f6, f7, e1, e2, e3, e4, r⟩ := D.hd p hp
        refine ⟨o, u, f1, f2, f3, f4, f5, f6, f7, bs e1 (un_ e1 (fun v n z => ?_) fun z => ?_), e2, e3, e4, r⟩
        · exact nomatch e3.symm.trans z
        · have := e3.symm.trans z
          cases this
          simp at e4
      · obtain ⟨m, om, b1, b2, b3, b4, b5, b6⟩ := bm
        have nm : ∀ c oc, s₁.heap.get? c = some oc → oc.data ≠ .plain → m ≠ c := by
          rintro c oc e n rfl
          rw [b3] at e
          cases e
          exact n b6
        refine ⟨m, om, b1, b2, ?_, nm _ _ tp (fun z => nomatch z), bs b3 (un_ b3 (fun v n z => ?_) fun z => ?_), b4, b5, b6⟩
        · obtain ⟨o, es, ep, e, d, _⟩ := gn
          exact nm _ _ e fun z => nomatch d.symm.trans z
        · exact nomatch b6.symm.trans z
        · exact nomatch b6.symm.trans z
      · intro z
        obtain ⟨o, es, ep, e, d, _⟩ := gn
        rw [z, tp] at e
        cases e
        exact nomatch d
    have e0 : Env0 P w K mg (hidT s₁.heap H) callerA [] s₁ H := { frames := rfl, mod := md, bs := fun b o e => of_hidT e, bsz := Nat.le_of_eq (hidT_size _ _), funs := trivial, frf := (fun b z => absurd (show b ∈ ([] : List Addr) from z) List.not_mem_nil), hok := ok, bare := .of_eq ge }
    refine codeAny_mono ((F _ kb (nk gn) tb).run callerA [] s₁ H ⟨[.ref a], []⟩ [.ref a] [.ref a] _ _ (Rm.caller rm) e0 (bi s₁ (.ref a)) (.cons rfl .nil) (hs H a0 hS)) ?_
    rintro (e | fl) s' h
    · exact (cx H e s' h).elim
    · cases fl with
      | ret u =>
        obtain ⟨v, H', os, ba, un, ok', r', q⟩ := h
        obtain rfl : v = .bl true := q
        obtain rfl : u = Value.bool true := r'
        have stay : ∀ b o, (¬ ∃ p ∈ cs, p.2 = b) → s₁.heap.get? b = some o → s'.heap.get? b = some o := by
          intro b o nt e
          rcases a0.2 b with z | z | ⟨_, _, ob, xs, z⟩
          · exact un.keep b o e z (fun y => absurd (show b ∈ ([] : List Addr) from y) List.not_mem_nil) (by simp)
          · exact absurd z nt
          · have e1 := (ok b _ z).1
            have e2 := (ok' b _ (un.frzs b ob _ z)).1
            rw [e] at e1
            cases e1
            exact e2
        have more : ∀ p ∈ cs, ∃ m : Array Value, s'.heap.get? p.2 = some (PySem.W.tabObj m) := by
          intro p hp
          obtain ⟨m, z⟩ := un.tbls p.2 #[] (a0.1 p hp)
          exact ⟨_, ok' p.2 _ z⟩
        refine ⟨rfl, ⟨fun b o e => ?_, fun b o e => ?_⟩, os, ba⟩
        · by_cases t : ∃ p ∈ cs, p.2 = b
          · obtain ⟨p, hp, rfl⟩ := t
            obtain ⟨m, hm⟩ := more p hp
            rw [D.em p hp] at e
            cases e
            refine .inr (.inl ⟨((D.hd p hp).tab (D.em p hp)).isCodeTable, rfl, #[], m, rfl, ?_⟩)
            rw [Array.empty_append]
            exact hm
          · exact .inl (stay b o t e)
        · by_cases t : ∃ p ∈ cs, p.2 = b
          · obtain ⟨p, hp, rfl⟩ := t
            obtain ⟨m, hm⟩ := more p hp
            exact ⟨_, hm⟩
          · exact ⟨o, stay b o t e⟩
      | _ => exact h.elim
  have rv := vals_ints ia
  have dec : ∀ b, (∃ p ∈ cs, p.2 = b) ∨ ¬ ∃ p ∈ cs, p.2 = b := fun b => Classical.em _
  have HT : ∃ T : Hp, (∀ b, (∃ p ∈ cs, p.2 = b) → T b = some (.tbl #[])) ∧ ∀ b, (¬ ∃ p ∈ cs, p.2 = b) → T b = none := by
    classical
    exact ⟨fun b => if ∃ p ∈ cs, p.2 = b then some (.tbl #[]) else none, fun b q => if_pos q, fun b q => if_neg q⟩
  obtain ⟨T, T1, T2⟩ := HT
  have T3 : ∀ b u, T b = some u → u = .tbl #[] ∧ ∃ p ∈ cs, p.2 = b := by
    intro b u e
    rcases dec b with q | q
    · rw [T1 b q] at e
      cases e
      exact ⟨rfl, q⟩
    · rw [T2 b q] at e
      cases e
  have tobj : ∀ b, (∃ p ∈ cs, p.2 = b) → s₁.heap.get? b = some (PySem.W.tabObj #[]) := by
    rintro b ⟨p, hp, rfl⟩
    exact D.em p hp
  cases hk : K.lookup a with
  | some o =>
    have e := kx a o hk
    rw [ao] at e
    cases e
    refine go T ⟨fun p hp => T1 _ ⟨p, hp, rfl⟩, fun b => ?_⟩ (.inr ⟨_, us.toArray, _, hk, rfl, rfl, rfl, ?_, ?_⟩) (fun b u z => ?_)
    · rcases dec b with q | q
      · exact .inr (.inl q)
      · exact .inl (T2 b q)
    · rw [List.size_toArray, ia.length]; exact nl
    · simpa using rv
    · obtain ⟨rfl, q⟩ := T3 b u z
      exact tobj b q
  | none =>
    let o0 : Obj := { cls := .type "list", data := .seq us.toArray }
    refine go (upd T a (.frz o0 (.lst (ns.map V.int)))) ⟨fun p hp => ?_, fun b => ?_⟩ (.inl (.inr ⟨o0, upd_same⟩)) (fun b u z => ?_)
    · rw [upd_ne (fun z => ant ⟨p, hp, z⟩)]
      exact T1 _ ⟨p, hp, rfl⟩
    · by_cases e : b = a
      · subst e
        exact .inr (.inr ⟨rfl, hk, _, _, upd_same⟩)
      · rcases dec b with q | q
        · exact .inr (.inl q)
        · rw [upd_ne e]
          exact .inl (T2 b q)
    · by_cases e : b = a
      · subst e
        rw [upd_same] at z
        cases z
        exact ⟨ao, by rw [List.length_map]; exact nl, us, _, rv, ao⟩
      · rw [upd_ne e] at z
        obtain ⟨rfl, q⟩ := T3 b u z
        exact tobj b q
/-- walk_ofW, with tables -/
theorem walk_ofT {l : PySem.W.OpenLaw} {n k : Nat} {q : Program} {loose : List Str} {XP : (Str → Option Value) → Heap → Prop} {YP : World → Heap → Prop} {d : DefRec} {x : Str}
    (hn : l.most = some n) (hn2 : n ≤ sizeLine) (hdf : d.params.defaults = []) (hr : Room k callerA)
    (F : ∀ (w : World) (mg : Str → Option Value) (fa : Addr) (h : Heap), YP w h → h.Ns mainGlobals mg → mg d.name = some (.ref fa) →
      ∃ (K : PySem.W.Frag) (cs : List (Addr × Addr)) (fd : FuncData) (sp : Sp), K.In h ∧ Cds K h cs ∧ (∀ (s : Shared) (u : Value), BindsTo s fd ⟨[u], []⟩ [(x, u)]) ∧
        (∀ (H : Hp) (a : Addr) (ns : List Int), ns.length ≤ n → At0 K cs a H → SqL K H a (ns.map V.int) → sp [.ref a] H (fun v _ => v = .bl true) fun _ _ _ => False) ∧
        ∀ base : Heap, K.In base → base.Ns mainGlobals mg → (∀ p ∈ cs, LamX.TabB base mg p.1 p.2) → FnG true l.prog w K mg base k fa fd [x] sp)
    (hCX : ∀ (w : World) (H : Hp) (s : Shared) (e : Value) (s' : Shared), L2.CX l.prog w [] H s (fun _ _ _ => False) e s' → False) :
    PySem.W.WalkO q loose XP YP l.row.toRowW d [] (fun f vs => PySem.call f vs) := by
  refine Att.attach_call hn hdf fun w s₀ s₁ mg mb fa o pm cd doc a vs ns G Y ho hd hcd hmg hobj hints hlen hg => ?_
  obtain ⟨K, cs, fd, sp, KX, D, hb, hsp, hF⟩ := F w mg fa _ Y G.T.g hmg
  exact law_callT KX G.T.g G.T.b G.T.builtins G.T.nolimit hg D G.T.bmain hobj hints (Nat.le_trans hlen hn2) hr hF hb (fun H hO hS => hsp H a ns hlen hO hS) fun H e s' => hCX w H s₁ e s'
theorem TbO.nil {H : Hp} {P : Addr} {q : Str} (h : H P = some (.tbl #[])) : TbO H [] P q := by
  obtain ⟨ps, h1, h2, h3⟩ := LamX.TabS.nil (q := q) h
  refine ⟨by simp, ps, h1, h2, fun pos cv hc => ?_⟩
  obtain ⟨c, e1, e2⟩ := h3 pos cv hc
  exact ⟨c, e1, by simp, e2⟩
theorem sp_endT {K : PySem.W.Frag} {cl : CW} {cs : List (Addr × Addr)} {H : Hp} {a : Addr} {ns : List Int} {f : MF} (hO : At0 K cs a H) (hS : SqL K H a (ns.map V.int)) (h : ∃ h', f [.sl (ns.map .int)] [] = .ok (.bl true) h') (hT : ∀ p ∈ cl.T, ∃ c, (c, p.1) ∈ cs) :
    spM K cl 1 f [.ref a] H (fun v _ => v = .bl true) (fun _ _ _ => False) := by
  have tb : ∀ p ∈ cl.T, TbO H [] p.1 p.2 := fun p hp => by
    obtain ⟨c, hc⟩ := hT p hp
    exact TbO.nil (hO.1 _ hc)
  obtain ⟨h', e⟩ := h
  have st : Stl K H a (ns.map V.int) := by
    rcases hS with (z | ⟨o, z⟩) | z
    · rcases hO.2 a with q | ⟨p, hp, rfl⟩ | ⟨_, _, o, xs, q⟩
      · rw [q] at z; cases z
      · rw [hO.1 p hp] at z; cases z
      · rw [q] at z; cases z
    · exact .inl ⟨o, z⟩
    · exact .inr z
  have ra : ∀ ns : List Int, RpA K H [] (ns.map .int) (ns.map V.int) := by
    intro ns
    induction ns with
    | nil => exact .nil
    | cons n r ih => exact .cons (.int n) ih
  refine ⟨[], [.sl (ns.map .int)], [], ⟨rfl, by simp, fun n o a e1 _ => by simp at e1, tb⟩, .one (.sl st (ra ns)), ?_⟩
  show Post _ _ _ _ _ _ _ (guard 1 f [.sl (ns.map .int)] []) _
  have : guard 1 f [.sl (ns.map .int)] [] = .ok (.bl true) h' := e
  rw [this]
  intro v H' mu' _ _ r
  cases r
  rfl
end DS

set_option Elab.async false
set_option linter.all false
set_option maxRecDepth 100000
set_option maxHeartbeats 4000000
/-! DXH: a def that hears what a lambda tells. -/
namespace DS
open PySem PySem.Spec PyProof.Rows L2
theorem takes_len {X : Cx} {W : WX} (tk : Takes X W) : Takes X (fun c d σ H => σ.length = X.N.length → W c d σ H) :=
  fun u s' ⟨a, B, sI, pins, σ, H, cls, d, e, I, nb, up, sky, na, os, ag, w⟩ => tk u s' ⟨a, B, sI, pins, σ, H, cls, d, e, I, nb, up, sky, na, os, ag, w I.len⟩
/-- what the clause makes of an exception: of the class at CS, with the field f -/
def EHear (K : PySem.W.Frag) (CS : Addr) (f : Str) (Q : VK) : XK := fun cls d H' => ∃ b, PySem.W.exmOne K cls (.ref CS) = some b ∧ (b = true → cls = .ref CS ∧ ∃ dd fs v, d = some dd ∧ H' dd = some (.xd fs) ∧ fs.lookup f = some v ∧ Q v H') ∧ (b = false → False)
/-- try: got = [a()]; except C as e: got = e.f; return got -/
def THear (K : PySem.W.Frag) (CS : Addr) (f : Str) : (XK → Hp → VK → Prop) → Hp → VK → Prop := fun tl H Q => tl (EHear K CS f Q) H fun v H1 => [v].length ≤ sizeLine ∧ ∀ p, H1 p = none → ∃ u, (some (some (V.ref p))) = some (some u) ∧ Q u (upd H1 p (.lst [v]))
section
variable {X : Cx} {x a got en q f cn : Str} {sg : Scope} {g CS : Addr} {cdg : Value} {p1 p2 p3 p4 p5 p6 p7 p8 p9 pA pB pC pD pE : Pos}
theorem hear_gives (T : XfC X.K CS) (hno : PySem.W.findIn X.K (.ref CS) f = some none) (nd : [a, got, en].Nodup) (la : sg.names.lookup a = some .local) (lg : sg.names.lookup got = some .local) (le : sg.names.lookup en = some .local)
    (hge : sg.names.lookup cn = some .globalImplicit) (hme : X.mg cn = some (.ref CS)) (hde : (cn == ("__debug__" : Str)) = false) (d1 : (got == ("__debug__" : Str)) = false) (d2 : (got == ("__classdict__" : Str)) = false) (d3 : (en == ("__debug__" : Str)) = false) (d4 : (en == ("__classdict__" : Str)) = false) :
    LamX.GivesTo X [a, got, en] x sg g cdg [.Try [.Assign [.Name got p9] (.List [.Call (.Name a p1) [] [] p2] p3) p4] [.ExceptHandler (some (.Name cn p5)) (some en) [.Assign [.Name got p6] (.Attribute (.Name en p7) f p8) pA] pB] [] [] pC, .Return (some (.Name got pD)) pE] a q (THear X.K CS f) := by
  intro fl c' s H Q tl act hc h
  let Z := (cxOf C8.CX0 X.prog X.w X.K X.mg X.base [a, got, en] x sg g cdg X.A X.stack s H C8.E0)
  have hgl : Gl Z.nox cn := hge
  refine ⟨_, pss_cons (ps_try_as (X := Z.nox) (i := 2) (c := .ref CS) (Wout := fun _ _ _ _ => False)
      (tb := fun W D σ H => ∃ Ech : XK, (∀ cls d σ' H', σ'.length = 3 → Ech cls d H' → W cls d σ' H') ∧ σ[0]? = some (some (.ref fl)) ∧ H c' = some (LamX.CodeO c' q) ∧ tl Ech H (fun v H1 => [v].length ≤ sizeLine ∧ ∀ p, H1 p = none → D.nx (σ.set 1 (some (.ref p))) (upd H1 p (.lst [v]))))
      (ts := fun a cls d => tAsg (tXf a cls d CS f (tVar 2)) (L2.gName 1))
      rfl rfl nd rfl le ⟨hgl, hde, .inl hme⟩ LamX.takes0 (fun W pn xe tk _ => ?_) (fun a oe cls d pn hz hf => ?_)) (pss_one (ps_ret (pe_var (i := 1) rfl (.inl lg) d1 d2))), ?_⟩
  · refine ⟨fun pins s' σ H' D I h' => ?_⟩
    obtain ⟨Ech, hW, h1, h2, h3⟩ := h'
    have hp := act _ pn xe Ech p1 p2 (takes_len tk) (fun cls d σ' H' e l => hW cls d σ' H' l e)
    refine (pss_one (ps_set (pos := p4) (pos' := p9) nd (i := 1) rfl (.inl lg) (pe_lst (pos := p3) (pa_cons hp pa_nil)) rfl (.inr lg))).run pins s' σ H' D I ?_
    exact ⟨h1, h2, h3⟩
  · exact pss_one (ps_set (X := Z.nox.suite a ((a, oe) :: pn)) nd rfl (.inl lg) (pe_xf (X := Z.nox) T hno hz hf (pe_var rfl (.inl le) d3 d4)) rfl (.inr lg))
  · refine ⟨EHear X.K CS f Q, ?_, rfl, hc, ?_⟩
    · rintro cls d σ' H' l ⟨b, e1, e2, e3⟩
      refine ⟨b, e1, fun hb a' na => ?_, e3⟩
      obtain ⟨ec, dd, fs, v, ed, eh, lk, hq⟩ := e2 hb
      refine ⟨.ref a', by simp [l], rfl, ec, dd, fs, v, ed, eh, lk, v, ?_, hq⟩
      simp [l]
    · exact h
end
end DS

set_option Elab.async false
set_option linter.all false
set_option maxRecDepth 100000
set_option maxHeartbeats 4000000
/-! DXM: x(lambda: ..) in a def; defs that make lambdas. -/
namespace DS
open PySem PySem.Spec PyProof.Rows L2
/-! ### making a lambda keeps the heap -/
def boxO (q : Str) : Obj := { cls := .none, data := .fields #[.none, .str q 0] }
theorem box_at (q : Str) (c : Addr) : ∃ h : Heap, h.get? c = some (boxO q) := by
  refine ⟨⟨Array.replicate (c + 1) (boxO q), {}⟩, ?_⟩
  have e : (Array.replicate (c + 1) (boxO q))[c]? = some (boxO q) := by
    rw [Array.getElem?_replicate, if_pos (Nat.lt_succ_self c)]
  show (match (Array.replicate (c + 1) (boxO q))[c]? with
    | some ⟨_, _, .freed, _⟩ => none
    | o => o) = _
  rw [e]
  rfl
theorem ext_inj {f g : Heap → Prop} (h : HO.ext f = HO.ext g) : f = g := by
  cases h; rfl
theorem tdx_ne {w : World} {c : Addr} {q : Str} {xs : List (NestedKey × Addr × Value)} : TDx w c xs ≠ LamX.CodeO c q := fun e => by
  unfold TDx LamX.CodeO at e
  have e := ext_inj e
  obtain ⟨h, hh⟩ := box_at q c
  have z := (congrFun e h).mpr ⟨_, _, _, hh, rfl, rfl⟩
  obtain ⟨o, es, ep, h1, _, h3, _⟩ := z
  rw [hh] at h1; cases h1; cases h3
theorem xob_ne {C c : Addr} {dd : Option Addr} {q : Str} : XOb C c dd ≠ LamX.CodeO c q := fun e => by
  unfold XOb LamX.CodeO at e
  have e := ext_inj e
  obtain ⟨h, hh⟩ := box_at q c
  have z := (congrFun e h).mpr ⟨_, _, _, hh, rfl, rfl⟩
  obtain ⟨oe, vs, h1, h2, _⟩ := z
  rw [hh] at h1; cases h1; cases h2
section
variable {K : PySem.W.Frag} {cl : CW} {H H1 : Hp} {mu : List Addr} {h : Hs}
theorem or_nt {a : Addr} {o : O} {u : HO} (r : OR K H mu cl a o) (e : H a = some u) : (∀ ps, u ≠ .tbl ps) ∧ ∀ q, u ≠ LamX.CodeO a q := by
  cases o with
  | lst ds => obtain ⟨xs, h1, _⟩ := r; rw [h1] at e; cases e; exact ⟨fun _ z => (by cases z), fun _ z => by unfold LamX.CodeO at z; cases z⟩
  | dct ds => obtain ⟨xs, h1, _⟩ := r; rw [h1] at e; cases e; exact ⟨fun _ z => (by cases z), fun _ z => by unfold LamX.CodeO at z; cases z⟩
  | dtt ds => obtain ⟨xs, h1, _⟩ := r; rw [h1] at e; cases e; exact ⟨fun _ z => (by unfold TDx at z; cases z), fun _ z => tdx_ne z⟩
  | dtz ds => obtain ⟨xs, ⟨o, h1⟩, _⟩ := r; rw [h1] at e; cases e; exact ⟨fun _ z => (by cases z), fun _ z => by unfold LamX.CodeO at z; cases z⟩
  | otp ds => obtain ⟨o, xs, h1, _⟩ := r; rw [h1] at e; cases e; exact ⟨fun _ z => (by cases z), fun _ z => by unfold LamX.CodeO at z; cases z⟩
  | ins c fs => obtain ⟨dx, gs, h1, _⟩ := r; rw [h1] at e; cases e; exact ⟨fun _ z => (by cases z), fun _ z => by unfold LamX.CodeO at z; cases z⟩
  | xob c fs => obtain ⟨dd, h1, _⟩ := r; rw [h1] at e; cases e; exact ⟨fun _ z => (by unfold XOb at z; cases z), fun _ z => xob_ne z⟩
theorem mo_lam (x : LamX.ExtN H H1) : Ext H mu H1 mu :=
  ⟨fun a o e _ nt => x a o e fun ps z => (by subst z; cases nt), fun a xs e => x a _ e fun ps z => (by cases z), fun a o u e => x a o e fun ps z => (by subst z; exact u.elim), List.prefix_refl _, fun _ h n => absurd h n⟩
theorem HR.lam (r : HR K H mu cl h) (x : LamX.ExtN H H1) (t : LamX.Tabs cl.T H1) : HR K H1 mu cl h where
  len := r.len
  nd := r.nd
  obj := fun n o a e1 e2 => (r.obj n o a e1 e2).mono (mo_lam x) fun u q => x a u q (or_nt (r.obj n o a e1 e2) q).1
  tb := fun p hp => by
    obtain ⟨ps, h2, h3, h4⟩ := t p hp
    refine ⟨(r.tb p hp).1, ps, h2, h3, fun pos cv hc => ?_⟩
    obtain ⟨c, e1, e2⟩ := h4 pos cv hc
    refine ⟨c, e1, fun hm => ?_, e2⟩
    obtain ⟨n, hn, e⟩ := List.getElem_of_mem hm
    have hn' : n < h.length := by rw [← r.len]; exact hn
    have ob := r.obj n h[n] c (by simp [hn']) (by simp [hn, e])
    obtain ⟨u, eu⟩ := ob.some
    have := x c u eu (or_nt ob eu).1
    rw [e2] at this
    exact (or_nt ob eu).2 _ (Option.some.inj this).symm
theorem HR.tabs (r : HR K H mu cl h) : LamX.Tabs cl.T H := fun p hp => by
  obtain ⟨_, ps, h2, h3, h4⟩ := r.tb p hp
  refine ⟨ps, h2, h3, fun pos cv hc => ?_⟩
  obtain ⟨c, e1, _, e2⟩ := h4 pos cv hc
  exact ⟨c, e1, e2⟩
end
/-! ### hearing -/
abbrev HOk1 := D → Hs → Option (D × Hs)
abbrev HEx1 := Ex → Hs → Option (D × Hs)
def hearO (okc : HOk1) (exc : HEx1) : R D → Option (D × Hs)
  | .ok d h => okc d h
  | .exc x h => exc x h
  | .bad => none
def eHear (okc : HOk1) (exc : HEx1) (m : ME) : ME := fun env h => lft (hearO okc exc (m env h))
/-- the def's promise: what it makes of the lambda's reading -/
def HearOk (K : PySem.W.Frag) (cl : CW) (TT : (XK → Hp → VK → Prop) → Hp → VK → Prop) (okc : HOk1) (exc : HEx1) : Prop :=
  ∀ (tl : XK → Hp → VK → Prop) (H : Hp) (mu : List Addr) (h : Hs) (r : R D) (Q : VK), HR K H mu cl h →
    (∀ (E : XK) (Q' : VK), Post (Rp K) K cl (fun c d _ H => E c d H) [] H mu r Q' → tl E H Q') → PostO K cl H mu (hearO okc exc r) Q → TT tl H Q
abbrev lamQ (x : Str) : Str := x ++ ".<locals>." ++ "<lambda>"
/-- what is known of a def that makes lambdas: its code object, its table -/
def MakC (base : Heap) (mg : Str → Option Value) (cl : CW) (cd : Value) (q : Str) : Prop := ∃ c P, cd = .ref c ∧ LamX.TabB base mg c P ∧ (P, q) ∈ cl.T ∧ ∀ p ∈ cl.T, p.1 = P → p.2 = q
section
variable {X : Cx} {cl : CW} {W : WX} {gd : Bool} {x a : Str} {st : Stmt} {Ng : List Str} {k : Nat} {params : Arguments} {body : Expr} {scope : Scope} {m : ME} {okc : HOk1} {exc : HEx1} {TT : (XK → Hp → VK → Prop) → Hp → VK → Prop} {p lpos pos : Pos}
theorem se_lam (k : Nat) (D : DefAt X.K X.mg x st [a]) (Sg : FnScope Ng [a] (defScope st)) (hNg : Ng[0]? = some a) (hva : Vis (defScope st) a)
    (hG : ∀ (g : Addr) (cdv : Value), LamX.GivesTo X Ng x (defScope st) g cdv (defBody st) a (X.env.qual ++ "<lambda>") TT) (ht : HearOk X.K cl TT okc exc)
    (MC : MakC X.base X.mg cl X.env.code (X.env.qual ++ "<lambda>")) (hr : Rm gd (k + 2) X.A) (L : LamX.LamS X.env.scope scope) (hdef : defaultsOf params X.env = ([], []))
    (hbind : ∀ (q : Str) (cl : List (Str × Addr)) (pm cv ctv : Value), bindArgs (PySem.W.kla_fn "<lambda>" q params body scope cl pm cv ctv) ⟨[], []⟩ = pure [])
    (hbody : ∀ (A : Around) (outer : List Env) (s : Shared) (H : Hp) (E : XK) (f c' : Addr), Rm false k (A.deeper (LamX.lamEnv X scope s.heap.objs.size f c')) → SE (LamX.lamCx X A outer s H E scope f c') cl (fun c d _ H => E c d H) body m)
    (hg : Gl X x := by rfl) (hdb : (x == ("__debug__" : Str)) = false := by decide) (hd : (a == ("__debug__" : Str)) = false := by decide) (hcd : (a == ("__classdict__" : Str)) = false := by decide) :
    SE X cl W (.Call (.Name x p) [.Lambda params body scope lpos] [] pos) (eHear okc exc m) := by
  obtain ⟨g, fd, F, hm, hb⟩ := D
  obtain ⟨oc, od, kV, doc, pm, an, cdv, ct, osl, rfl, lk, hcg⟩ := F.ex
  obtain ⟨c, P, ec, TB, hmT, hu⟩ := MC
  refine PE.imp (LamX.pe_lamcall (T := cl.T) (t := fun E => tE X.K cl (fun c d _ H => E c d H) m) hg hm F.kp lk hcg hb Sg hNg hva (hG g cdv) TB ec hmT hu hr.r L hdef hbind (fun A outer s H E f c' hr' => hbody A outer s H E f c' ⟨hr', fun z => by cases z⟩) hdb hd hcd) fun sg H Q ⟨mu, env, h, rel, q⟩ => ?_
  refine ⟨rel.hr.tabs, fun H1 eN T1 => ?_⟩
  have hr1 := rel.hr.lam eN T1
  have er1 : ER X.K H1 mu env sg := rel.er.mono (mo_lam eN)
  refine ht _ H1 mu h (m env h) Q hr1 (fun E Q' po => ⟨mu, env, h, ⟨hr1, er1⟩, ?_⟩) ?_
  · revert po
    cases m env h with
    | ok d h1 => exact id
    | exc x h1 => exact id
    | bad => exact id
  · have q' := PostO.of (Post.ext (mo_lam eN) q)
    exact q'
end
/-! ### THear: [a()], or the field of an exception of the class c -/
def okL : HOk1 := fun d h => some (.ref h.length, h ++ [.lst [d]])
def exF (c : Nat) (f : Str) : HEx1 := fun x h => if x.cls = c then (x.fs.lookup f).map fun d => (d, h) else none
theorem hear_ok {K : PySem.W.Frag} {cl : CW} {c : Nat} {f : Str} (hx : PySem.W.exmOne K (.ref (cl c)) (.ref (cl c)) = some true) : HearOk K cl (THear K (cl c) f) okL (exF c f) := by
  intro tl H mu h r Q hR ht po
  refine ht _ _ ?_
  cases r with
  | ok d h1 =>
    intro v H' mu' e hr rv
    refine ⟨(by show 1 ≤ sizeLine; decide), fun p hp => ⟨.ref p, rfl, ?_⟩⟩
    refine po (.ref p) _ (mu' ++ [p]) (e.trans (Ext.allocd hp)) (hr.allocd hp ⟨[v], upd_same, .one (rv.mono (Ext.allocd hp))⟩) (.ref ?_)
    rw [← hr.len]; simp
  | exc x h1 =>
    intro cc dd H' mu' e hr xr
    obtain ⟨rfl, xr⟩ := xr
    change PostO K cl H mu (exF c f x h1) Q at po
    unfold exF at po
    by_cases hc : x.cls = c
    · rw [if_pos hc] at po
      cases hl : x.fs.lookup f with
      | none => rw [hl] at po; exact po.elim
      | some d =>
        rw [hl] at po
        rcases xr with ⟨z, _⟩ | ⟨dd', gs, e1, e2, e3, e4⟩
        · rw [z] at hl; cases hl
        · obtain ⟨v, lv, rv⟩ := lookF_ok e4 hl
          rw [hc]
          exact ⟨true, hx, fun _ => ⟨rfl, dd', gs, v, e1, e3, lv, po v H' mu' e hr rv⟩, fun z => by cases z⟩
    · rw [if_neg hc] at po; exact po.elim
  | bad => exact po.elim
/-! ### defs that make lambdas -/
section
variable {P : Program} {w : World} {K : PySem.W.Frag} {mg : Str → Option Value} {base : Heap} {cl : CW} {gd : Bool}
theorem FnG.ofC {x qual : Str} {st : Stmt} {f : Addr} {fd : FuncData} {N ps : List Str} {k : Nat} {sp : Sp} (F : Fun K x qual st f fd) (S : FnScope N ps (defScope st)) (len : ∀ vs H Q E, sp vs H Q E → vs.length = ps.length)
    (hbody : ∀ (cdv : Value) (A : Around) (outer : List Env) (s : Shared) (H : Hp) (vs : List V) (Q : VK) (E : XK), fd.code = cdv → Rm gd k (A.deeper (envOfC qual (defScope st) s.heap.objs.size f cdv)) → sp vs H Q E → ∃ t, PSs (cxOf (L2.CX P w) P w K mg base N qual (defScope st) f cdv A outer s H E) (defBody st) t ∧ t { nx := fun _ H' => Q .non H', rt := Q } (start N vs) H) :
    FnG gd P w K mg base (k + 1) f fd ps sp := by
  obtain ⟨oc, od, kV, doc, pm, an, cdv, ct, osl, rfl, lk, hcd⟩ := F.ex
  constructor
  · exact len
  intro A outer s H args us vs Q E hr e0 hb rv hsp
  have hold : ∀ b o, base.get? b = some o → s.heap.get? b = some o := fun b o e => (e0.bs b o e).1
  have kin : K.In s.heap := e0.mod.kin.keeps hold
  obtain ⟨t, ht, hq⟩ := hbody cdv A outer s H vs Q E rfl (hr.deeper _) hsp
  refine codeAny_call_function hr.r.depth (kin _ _ lk) rfl S.co S.gen rfl (PySem.W.codeRec_of kin hcd) (hb _ _ _ _ (wpAny_newFunctionEnv_cells S.kind (fun y hy => ?_) fun env he s1 z => ?_))
  · have par := S.par y.1 (List.of_mem_zip (show (y.1, y.2) ∈ ps.zip us from hy)).1
    exact par.imp id fun q => ⟨q, PySem.W.cellsFrom_some _ _ _ (.inl q)⟩
  · subst he
    have I := inv_start (CX := L2.CX P w) (E := E) S hr.r.hd e0 (len _ _ _ _ hsp) rv z
    refine ⟨(e0.mod.nolimit.keeps hold).keeps z.toInCall.keep, codeAny_func (wpAny_mono (ht.run [] s1 (start N vs) H _ I hq) (fun fl s' hs => ?_) fun _ _ hx => hx)⟩
    cases fl with
    | next => obtain ⟨_, H', J, q⟩ := hs; exact ⟨V.non, H', J.os, J.bare, J.base, J.hok, rfl, q⟩
    | ret u => obtain ⟨v, _, H', J, ru, q⟩ := hs; exact ⟨v, H', J.os, J.bare, J.base, J.hok, ru, q⟩
    | brk => obtain ⟨_, _, _, q⟩ := hs; cases q
    | cont => obtain ⟨_, _, _, q⟩ := hs; cases q
theorem fn_okC {x qual : Str} {st : Stmt} {f : Addr} {fd : FuncData} {N ps : List Str} {k : Nat} {m : MS} (F : Fun K x qual st f fd) (S : FnScope N ps (defScope st))
    (hbody : ∀ (cdv : Value) (A : Around) (outer : List Env) (s : Shared) (H : Hp) (E : XK), fd.code = cdv → Rm gd k (A.deeper (envOfC qual (defScope st) s.heap.objs.size f cdv)) →
      SB (cxOf (L2.CX P w) P w K mg base N qual (defScope st) f cdv A outer s H E) cl (fun c d _ H' => E c d H') (defBody st) m) :
    FnG gd P w K mg base (k + 1) f fd ps (spM K cl ps.length (mFn N.length m)) := by
  refine FnG.ofC F S (fun vs H Q E h => h.len) fun cdv A outer s H vs Q E hcd hr ⟨mu, ds, h, hR, ra, p⟩ => ⟨_, hbody cdv A outer s H E hcd hr, ?_⟩
  have p := guard_ok p
  refine ⟨mu, startE N.length ds, h, ⟨hR, er_start ra⟩, ?_⟩
  unfold mFn at p
  cases q : m (startE N.length ds) h with
  | nx e' h' =>
    rw [q] at p
    intro sg H' mu' e hr' er'
    cases q2 : gcR h.length (outR (.nx e' h')) with
    | ok d' h'' =>
      rw [q2] at p
      obtain ⟨mu2, e2, hr2, r2⟩ := gc_ok e hR.len hr' .non q2
      exact p _ _ _ e2 hr2 r2
    | exc x h'' => exact (gcR_noexc _ _ _ _ _ q2).elim
    | bad => rw [q2] at p; exact p.elim
  | ret d h' =>
    rw [q] at p
    intro v H' mu' e hr' rv
    cases q2 : gcR h.length (outR (.ret d h')) with
    | ok d' h'' =>
      rw [q2] at p
      obtain ⟨mu2, e2, hr2, r2⟩ := gc_ok e hR.len hr' rv q2
      exact p _ _ _ e2 hr2 r2
    | exc x h'' => exact (gcR_noexc _ _ _ _ _ q2).elim
    | bad => rw [q2] at p; exact p.elim
  | bk e' h' => rw [q] at p; exact p.elim
  | ct e' h' => rw [q] at p; exact p.elim
  | exc x e' h' => rw [q] at p; exact fun c dd sg H' mu' e hr' er' hx => p c dd H' mu' e hr' hx
  | bad => rw [q] at p; exact p
/-- a maker of lambdas, as it stands behind the top -/
def DefAtC (K : PySem.W.Frag) (mg : Str → Option Value) (base : Heap) (cl : CW) (x : Str) (st : Stmt) (ps : List Str) : Prop := ∃ f fd, Fun K x x st f fd ∧ mg x = some (.ref f) ∧ Binds K fd ps [] ∧ MakC base mg cl fd.code (lamQ x)
theorem FnS.mkC {x : Str} {st : Stmt} {N ps : List Str} {k n : Nat} {m : MS} {mf : MF} (D : DefAtC K mg base cl x st ps) (S : FnScope N ps (defScope st))
    (hbody : ∀ (f : Addr) (cdv : Value) (A : Around) (outer : List Env) (s : Shared) (H : Hp) (E : XK), MakC base mg cl cdv (lamQ x) → Rm gd k (A.deeper (envOfC x (defScope st) s.heap.objs.size f cdv)) →
      SB (cxOf (L2.CX P w) P w K mg base N x (defScope st) f cdv A outer s H E) cl (fun c d _ H' => E c d H') (defBody st) m)
    (hn : ps.length = n := by rfl) (hf : mFn N.length m = mf := by rfl) :
    FnS gd P w K mg base cl (k + 1) x n mf := by
  subst hn hf
  obtain ⟨f, fd, F, hm, hb, hc⟩ := D
  exact ⟨f, fd, ps, fn_okC F S fun cdv A outer s H E hcd hr => hbody f cdv A outer s H E (hcd ▸ hc) hr, hm, F.kp, hb⟩
theorem fn_okEC {x : Str} {st : Stmt} {N ps : List Str} {k n : Nat} {m : MS} {mf : MF} {f : Addr} {fd : FuncData} (F : Fun K x x st f fd) (hc : MakC base mg cl fd.code (lamQ x)) (S : FnScope N ps (defScope st))
    (hbody : ∀ (cdv : Value) (A : Around) (outer : List Env) (s : Shared) (H : Hp) (E : XK), MakC base mg cl cdv (lamQ x) → Rm gd k (A.deeper (envOfC x (defScope st) s.heap.objs.size f cdv)) →
      SB (cxOf (L2.CX P w) P w K mg base N x (defScope st) f cdv A outer s H E) cl (fun c d _ H' => E c d H') (defBody st) m)
    (hn : ps.length = n := by rfl) (hf : mFn N.length m = mf := by rfl) :
    FnG gd P w K mg base (k + 1) f fd ps (spM K cl n mf) := by
  subst hn hf
  exact fn_okC F S fun cdv A outer s H E hcd hr => hbody cdv A outer s H E (hcd ▸ hc) hr
end
end DS

set_option Elab.async false
set_option linter.all false
set_option maxRecDepth 100000
set_option maxHeartbeats 4000000
/-! DXN: the head's word on exceptions and makers of lambdas. -/
namespace DS
open PySem PySem.Spec PyProof.Rows L2
/-- a class of exceptions with one field, as it stands behind the top -/
structure ExAt (K : PySem.W.Frag) (mg : Str → Option Value) (cl : CW) (n : Nat) (x f qual : Str) (st : Stmt) : Prop where
  ox : OexC K (cl n)
  xf : XfC K (cl n)
  no : PySem.W.findIn K (.ref (cl n)) f = some none
  ex : PySem.W.exmOne K (.ref (cl n)) (.ref (cl n)) = some true
  gm : mg x = some (.ref (cl n))
  ini : ∃ fI fd, Fun K "__init__" qual st fI fd ∧ PySem.W.findIn K (.ref (cl n)) "__init__" = some (some (.ref fI)) ∧ PySem.W.typeIn K (.ref fI) = some (.type "function") ∧ Binds K fd [("self" : Str), f] []
/-- the class above -/
def BaAt (K : PySem.W.Frag) (mg : Str → Option Value) (x : Str) : Prop := ∃ B, AbC K B ∧ mg x = some (.ref B)
section
variable {P : Program} {w : World} {K : PySem.W.Frag} {mg : Str → Option Value} {base : Heap} {cl : CW}
theorem ExS.mk1 {n : Nat} {x f qual : Str} {st : Stmt} {s1 s2 : Stmt} (E : ExAt K mg cl n x f qual st) (S : FnScope [("self" : Str), f] [("self" : Str), f] (defScope st)) (hb : defBody st = [s1, s2])
    (h1 : ∀ (fI : Addr) (cdv : Value) (A : Around) (outer : List Env) (s : Shared) (H : Hp) (E : XK), PS (cxOf L2.CX0 P w K mg base [("self" : Str), f] qual (defScope st) fI cdv A outer s H E).nox s1 (fun D σ H => ∃ a : Addr, σ[0]? = some (some (.ref a)) ∧ OexC K (cl n) ∧ H a = some (exo a (cl n) none) ∧ D.nx σ H))
    (h2 : ∀ (fI : Addr) (cdv : Value) (A : Around) (outer : List Env) (s : Shared) (H : Hp) (E : XK), PS (cxOf L2.CX0 P w K mg base [("self" : Str), f] qual (defScope st) fI cdv A outer s H E).nox s2 (tOst K f (fun σ H Q => ∃ v, σ[0]? = some (some v) ∧ Q v H) (fun σ H Q => ∃ v, σ[1]? = some (some v) ∧ Q v H))) :
    ExS P w K mg base (cl n) x [f] := by
  obtain ⟨fI, fd, F, iC, tI, b⟩ := E.ini
  exact ⟨fI, fd, E.ox, iC, tI, init1 F S hb E.no (h1 fI) (h2 fI), b, E.gm⟩
end
def exB (K : PySem.W.Frag) (x f : Str) : Bool := xcB K (He.ga K x) && (xfB K (He.ga K x) && (decide (PySem.W.findIn K (.ref (He.ga K x)) f = some none) && (decide (PySem.W.exmOne K (.ref (He.ga K x)) (.ref (He.ga K x)) = some true) && (decide (PySem.W.findIn K (.ref (He.ga K x)) "__init__" = some (some (.ref (He.ma K (He.ga K x) "__init__")))) && decide (PySem.W.typeIn K (.ref (He.ma K (He.ga K x) "__init__")) = some (.type "function"))))))
theorem exAt_of {fa : List He.Fa} {fn : List He.DefD} {K : PySem.W.Frag} {h : Heap} {mg : Str → Option Value} {cl : CW} (X : K.In h) (G : h.Ns mainGlobals mg) (cd : He.SaysD fa fn K) {n : Nat} {x f qual : Str} {st : Stmt} (hcl : cl n = He.ga K x) (i k : Nat) (hi : fa[i]? = some (.glo x)) (hk : fn[k]? = some (defM x "__init__" qual st)) (e : exB K x f = true)
    (hb : ∀ (kV doc pm : Value) (an : Option Addr) (cdv ct : Value) (us : List Value), us.length = [("self" : Str), f].length → bindArgs (PySem.W.fnOf "__init__" qual (defArgs st) (defBody st) (defScope st) .none kV doc pm an cdv ct) ⟨us, []⟩ = pure ([("self" : Str), f].zip us)) : ExAt K mg cl n x f qual st := by
  unfold exB at e
  simp only [Bool.and_eq_true] at e
  obtain ⟨e1, e2, e3, e4, e5, e6⟩ := e
  obtain ⟨fd, F⟩ := cd.def_ k hk
  refine ⟨?_, ?_, ?_, ?_, ?_, ?_⟩
  · rw [hcl]; exact xcB_ok e1
  · rw [hcl]; exact xfB_ok e2
  · rw [hcl]; exact of_decide_eq_true e3
  · rw [hcl]; exact of_decide_eq_true e4
  · rw [hcl]; exact He.glo_ok X G (cd.fact i hi)
  · rw [hcl]
    exact ⟨_, fd, fun_of F, of_decide_eq_true e5, of_decide_eq_true e6, FunD.bindsN F hb⟩
theorem baAt_of {fa : List He.Fa} {fn : List He.DefD} {K : PySem.W.Frag} {h : Heap} {mg : Str → Option Value} (X : K.In h) (G : h.Ns mainGlobals mg) (cd : He.SaysD fa fn K) {x : Str} (i : Nat) (hi : fa[i]? = some (.glo x)) (e : abB K (He.ga K x) = true) : BaAt K mg x :=
  ⟨_, abB_ok e, He.glo_ok X G (cd.fact i hi)⟩
/-! ### makers of lambdas -/
abbrev tfT (K : PySem.W.Frag) (tf : List He.Defn) : List (Addr × Str) := tf.map fun p => ((He.cT K p).2, lamQ p.1)
def tfB (K : PySem.W.Frag) (tf : List He.Defn) : Bool := decide (tf.map fun p => (He.cT K p).2).Nodup
theorem nodup_inj {α β : Type} {f : α → β} : ∀ {l : List α}, (l.map f).Nodup → ∀ {a b : α}, a ∈ l → b ∈ l → f a = f b → a = b
  | [], _, _, _, h, _, _ => by cases h
  | x :: r, nd, a, b, ha, hb, e => by
    rw [List.map_cons, List.nodup_cons] at nd
    rcases List.mem_cons.mp ha with ea | ha2
    · rcases List.mem_cons.mp hb with eb | hb2
      · rw [ea, eb]
      · exact absurd (show f x ∈ r.map f from (by rw [← ea, e]; exact List.mem_map_of_mem hb2)) nd.1
    · rcases List.mem_cons.mp hb with eb | hb2
      · exact absurd (show f x ∈ r.map f from (by rw [← eb, ← e]; exact List.mem_map_of_mem ha2)) nd.1
      · exact nodup_inj nd.2 ha2 hb2 e
theorem makC_of {K : PySem.W.Frag} {base : Heap} {mg : Str → Option Value} {cl : CW} {tf : List He.Defn} {x qual : Str} {st : Stmt} {fd : FuncData} (F : Fun K x qual st (He.ga K x) fd) (hT : cl.T = tfT K tf) (hm : (x, none) ∈ tf) (hn : tfB K tf = true) (TB : ∀ p ∈ tf.map (He.cT K), LamX.TabB base mg p.1 p.2) : MakC base mg cl fd.code (lamQ x) := by
  obtain ⟨oc, od, kV, doc, pm, an, cdv, ct, osl, rfl, lk, hcd⟩ := F.ex
  obtain ⟨c, rfl⟩ := He.codeIn_ref hcd
  have ec : He.codeOf K (x, none) = c := He.codeOf_eq (p := (x, none)) lk rfl
  have tb := TB (He.cT K (x, none)) (List.mem_map_of_mem hm)
  unfold He.cT at tb
  rw [ec] at tb
  refine ⟨c, He.tabOf K c, rfl, tb, ?_, ?_⟩
  · rw [hT]
    refine List.mem_map.mpr ⟨(x, none), hm, ?_⟩
    unfold He.cT
    rw [ec]
  · intro p hp e
    rw [hT] at hp
    obtain ⟨q, hq, rfl⟩ := List.mem_map.mp hp
    have e2 : (He.cT K q).2 = (He.cT K (x, none)).2 := by
      unfold He.cT at e ⊢
      rw [ec]; exact e
    have := nodup_inj (of_decide_eq_true hn) hq hm e2
    rw [this]
theorem defAtC_of {fa : List He.Fa} {fn : List He.DefD} {K : PySem.W.Frag} {h base : Heap} {mg : Str → Option Value} {cl : CW} {tf : List He.Defn} (X : K.In h) (G : h.Ns mainGlobals mg) (c : He.SaysD fa fn K) {x : Str} {st : Stmt} {ps : List Str} (hT : cl.T = tfT K tf) (hm : (x, none) ∈ tf) (hn : tfB K tf = true) (TB : ∀ p ∈ tf.map (He.cT K), LamX.TabB base mg p.1 p.2) (i j : Nat) (hi : fa[i]? = some (.glo x)) (hj : fn[j]? = some (defD x st))
    (hb : ∀ (kV doc pm : Value) (an : Option Addr) (cdv ct : Value) (us : List Value), us.length = ps.length → bindArgs (PySem.W.fnOf x x (defArgs st) (defBody st) (defScope st) .none kV doc pm an cdv ct) ⟨us, []⟩ = pure (ps.zip us)) : DefAtC K mg base cl x st ps := by
  obtain ⟨fd, F⟩ := c.def_ j hj
  exact ⟨_, fd, fun_of F, He.glo_ok X G (c.fact i hi), FunD.bindsN F hb, makC_of (fun_of F) hT hm hn TB⟩
theorem cds_of {fa : List He.Fa} {fn : List He.DefD} {ts : List He.Tab} {tf : List He.Defn} {ex : PySem.W.Frag → Bool} {w : World} {h : Heap} {K : PySem.W.Frag} (X : K.In h) (c : He.SaysX fa fn ts tf ex w h K) : Cds K h (tf.map (He.cT K)) where
  em := fun p hp => by
    obtain ⟨q, hq, rfl⟩ := List.mem_map.mp hp
    exact c.empty q hq
  no := fun p hp => by
    obtain ⟨q, hq, rfl⟩ := List.mem_map.mp hp
    exact c.out q hq
  hd := fun p hp => by
    obtain ⟨q, hq, rfl⟩ := List.mem_map.mp hp
    exact PySem.W.codeHd_of_K X (c.hd q hq)
theorem tfT_in {K : PySem.W.Frag} {tf : List He.Defn} : ∀ p ∈ tfT K tf, ∃ c, (c, p.1) ∈ tf.map (He.cT K) := fun p hp => by
  obtain ⟨q, hq, rfl⟩ := List.mem_map.mp hp
  exact ⟨_, List.mem_map_of_mem hq⟩
/-! ### the Hook: He.hookX, with the statics -/
def asY (g : Addr → Option Obj) (n : Nat) : List Addr := cStatics :: He.asD g n
def obsY (n : Nat) (fa : List He.Fa) (fn : List He.DefD) (ts : List He.Tab) (tf : List He.Defn) (ex : PySem.W.Frag → Bool) (g : Addr → Option Obj) : He.AlX := (He.obsT fa fn ts (He.frT g (asY g n)), ex (He.frT g (asY g n)) && He.tabsB g tf (He.frT g (asY g n)))
theorem saysL_of {as : List Addr} {fa : List He.Fa} {fn : List He.DefD} {ts : List He.Tab} {tf : List He.Defn} {ex : PySem.W.Frag → Bool} {w : World} {h : Heap} (e : ((He.obsT fa fn ts (He.frT h.get? as), ex (He.frT h.get? as) && He.tabsB h.get? tf (He.frT h.get? as)) : He.AlX) = He.valX fn ts w) : He.SaysX fa fn ts tf ex w h (He.frT h.get? as) := by
  have e1 : He.obsT fa fn ts (He.frT h.get? as) = He.valT fn ts w := congrArg (fun z : He.AlX => z.1) e
  have e2 : (ex (He.frT h.get? as) && He.tabsB h.get? tf (He.frT h.get? as)) = true := congrArg (fun z : He.AlX => z.2) e
  obtain ⟨h1, h2⟩ := He.ba e2
  have key : ∀ p ∈ tf, PySem.W.codeHdIn (He.frT h.get? as) (He.cT (He.frT h.get? as) p).1 (He.cT (He.frT h.get? as) p).2 = true ∧ ∃ o, h.get? (He.cT (He.frT h.get? as) p).2 = some o ∧ He.emptyTab o = true := fun p hp => by
    obtain ⟨h3, h4⟩ := He.ba (List.all_eq_true.mp h2 p hp)
    refine ⟨h3, ?_⟩
    cases q : h.get? (He.cT (He.frT h.get? as) p).2 with
    | none => rw [q] at h4; cases h4
    | some o => rw [q] at h4; exact ⟨o, rfl, h4⟩
  exact ⟨e1, h1, fun p hp => (key p hp).1, fun p hp => by
    obtain ⟨_, o, q, z⟩ := key p hp
    exact He.frT_none q z, fun p hp => by
    obtain ⟨_, o, q, z⟩ := key p hp
    rw [q, He.emptyTab_eq z]⟩
def hookY (n : Nat) (fa : List He.Fa) (fn : List He.DefD) (ts : List He.Tab) (tf : List He.Defn) (ex : PySem.W.Frag → Bool) : PySem.W.Hook where
  α := He.AlX
  obs := fun s => obsY n fa fn ts tf ex s.heap.get?
  val := fun w => He.valX fn ts w
  says := fun w h => ∃ K : PySem.W.Frag, K.In h ∧ He.SaysX fa fn ts tf ex w h K
  of := fun _ _ e => ⟨_, He.frT_in, saysL_of e⟩
  keeps := fun _ _ _ ⟨K, hK, c⟩ k => ⟨K, PySem.W.Frag.In.keeps hK k, ⟨c.t, c.more, c.hd, c.out, fun p hp => k _ _ (c.empty p hp)⟩⟩
theorem obsY_eq {n : Nat} {fa : List He.Fa} {fn : List He.DefD} {ts : List He.Tab} {tf : List He.Defn} {ex : PySem.W.Frag → Bool} {g : Addr → Option Obj} {s : Shared} (h : ∀ a, g a = s.heap.get? a) : obsY n fa fn ts tf ex g = (hookY n fa fn ts tf ex).obs s := by
  have e : g = s.heap.get? := funext h
  rw [e] <;> rfl
end DS

set_option Elab.async false
set_option linter.all false
set_option maxRecDepth 100000
set_option maxHeartbeats 4000000
/-! DXO: {}; got = 'text'; try: a() except C as e: got = [e.f]; return got. -/
namespace DS
open PySem PySem.Spec PyProof.Rows L2
theorem se_dict0 {X : Cx} {cl : CW} {W : WX} {pos : Pos} : SE X cl W (.Dict [] [] pos) (eDict []) :=
  PE.imp pe_dnewK fun sg H Q ⟨mu, env, h, rel, p⟩ q hq => by
    have p' : Post (Rp X.K) X.K cl W sg H mu (.ok (.ref h.length) (h ++ [.dct []])) Q := p
    refine p' (.ref q) _ (mu ++ [q]) (Ext.allocd hq) (rel.hr.allocd hq ⟨[], upd_same, .nil⟩) (.ref ?_)
    rw [← rel.hr.len]; simp
def EHearB (K : PySem.W.Frag) (CS : Addr) (f : Str) (Q : VK) : XK := fun cls d H' => ∃ b, PySem.W.exmOne K cls (.ref CS) = some b ∧ (b = true → cls = .ref CS ∧ ∃ dd fs v, d = some dd ∧ H' dd = some (.xd fs) ∧ fs.lookup f = some v ∧ [v].length ≤ sizeLine ∧ ∀ p, H' p = none → Q (.ref p) (upd H' p (.lst [v]))) ∧ (b = false → False)
def THearB (K : PySem.W.Frag) (CS : Addr) (f tx : Str) : (XK → Hp → VK → Prop) → Hp → VK → Prop := fun tl H Q => tl (EHearB K CS f Q) H fun _ H1 => ∃ u, (some (some (V.str tx))) = some (some u) ∧ Q u H1
section
variable {X : Cx} {x a got en q f cn tx : Str} {sg : Scope} {g CS : Addr} {cdg : Value} {k : Nat} {p1 p2 p3 p4 p5 p6 p7 p8 p9 pA pB pC pD pE pF pG : Pos}
theorem hearB_gives (T : XfC X.K CS) (hno : PySem.W.findIn X.K (.ref CS) f = some none) (nd : [a, got, en].Nodup) (la : sg.names.lookup a = some .local) (lg : sg.names.lookup got = some .local) (le : sg.names.lookup en = some .local)
    (hge : sg.names.lookup cn = some .globalImplicit) (hme : X.mg cn = some (.ref CS)) (hde : (cn == ("__debug__" : Str)) = false) (d1 : (got == ("__debug__" : Str)) = false) (d2 : (got == ("__classdict__" : Str)) = false) (d3 : (en == ("__debug__" : Str)) = false) (d4 : (en == ("__classdict__" : Str)) = false) :
    LamX.GivesTo X [a, got, en] x sg g cdg [.Assign [.Name got pF] (.Constant (.str tx) k pG) p3, .Try [.Expr (.Call (.Name a p1) [] [] p2) p4] [.ExceptHandler (some (.Name cn p5)) (some en) [.Assign [.Name got p6] (.List [.Attribute (.Name en p7) f p8] p9) pA] pB] [] [] pC, .Return (some (.Name got pD)) pE] a q (THearB X.K CS f tx) := by
  intro fl c' s H Q tl act hc h
  let Z := (cxOf C8.CX0 X.prog X.w X.K X.mg X.base [a, got, en] x sg g cdg X.A X.stack s H C8.E0)
  have hgl : Gl Z.nox cn := hge
  refine ⟨_, pss_cons (ps_set (X := Z.nox) (pos := p3) (pos' := pF) nd (i := 1) rfl (.inl lg) pe_str rfl (.inr lg)) (pss_cons (ps_try_as (X := Z.nox) (i := 2) (c := .ref CS) (Wout := fun _ _ _ _ => False)
      (tb := fun W D σ H => ∃ Ech : XK, (∀ cls d σ' H', σ'.length = 3 → Ech cls d H' → W cls d σ' H') ∧ σ[0]? = some (some (.ref fl)) ∧ H c' = some (LamX.CodeO c' q) ∧ tl Ech H (fun v H1 => D.nx σ H1))
      (ts := fun a cls d => tAsg (tLst (tCons (tXf a cls d CS f (tVar 2)) tNil)) (L2.gName 1))
      rfl rfl nd rfl le ⟨hgl, hde, .inl hme⟩ LamX.takes0 (fun W pn xe tk _ => ?_) (fun a oe cls d pn hz hf => ?_)) (pss_one (ps_ret (pe_var (i := 1) rfl (.inl lg) d1 d2)))), ?_⟩
  · refine ⟨fun pins s' σ H' D I h' => ?_⟩
    obtain ⟨Ech, hW, h1, h2, h3⟩ := h'
    have hp := act _ pn xe Ech p1 p2 (takes_len tk) (fun cls d σ' H' e l => hW cls d σ' H' l e)
    exact (pss_one (ps_expr (pos := p4) hp)).run pins s' σ H' D I ⟨h1, h2, h3⟩
  · exact pss_one (ps_set (X := Z.nox.suite a ((a, oe) :: pn)) nd rfl (.inl lg) (pe_lst (pos := p9) (pa_cons (pe_xf (X := Z.nox) T hno hz hf (pe_var rfl (.inl le) d3 d4)) pa_nil)) rfl (.inr lg))
  · refine ⟨EHearB X.K CS f Q, ?_, rfl, hc, ?_⟩
    · rintro cls d σ' H' l ⟨b, e1, e2, e3⟩
      refine ⟨b, e1, fun hb a' na => ?_, e3⟩
      obtain ⟨ec, dd, fs, v, ed, eh, lk, hl, hq⟩ := e2 hb
      refine ⟨.ref a', by simp [l], rfl, ec, dd, fs, v, ed, eh, lk, hl, fun p hp => ⟨.ref p, ?_, hq p hp⟩⟩
      simp [l]
    · exact h
end
def okT (x : Str) : HOk1 := fun _ h => some (.str x, h)
def exL (c : Nat) (f : Str) : HEx1 := fun x h => if x.cls = c then (x.fs.lookup f).map fun d => (.ref h.length, h ++ [.lst [d]]) else none
theorem hearB_ok {K : PySem.W.Frag} {cl : CW} {c : Nat} {f tx : Str} (hx : PySem.W.exmOne K (.ref (cl c)) (.ref (cl c)) = some true) : HearOk K cl (THearB K (cl c) f tx) (okT tx) (exL c f) := by
  intro tl H mu h r Q hR ht po
  refine ht _ _ ?_
  cases r with
  | ok d h1 =>
    intro v H' mu' e hr rv
    exact ⟨.str tx, rfl, po (.str tx) _ mu' e hr (.str tx)⟩
  | exc x h1 =>
    intro cc dd H' mu' e hr xr
    obtain ⟨rfl, xr⟩ := xr
    change PostO K cl H mu (exL c f x h1) Q at po
    unfold exL at po
    by_cases hc : x.cls = c
    · rw [if_pos hc] at po
      cases hl : x.fs.lookup f with
      | none => rw [hl] at po; exact po.elim
      | some d =>
        rw [hl] at po
        rcases xr with ⟨z, _⟩ | ⟨dd', gs, e1, e2, e3, e4⟩
        · rw [z] at hl; cases hl
        · obtain ⟨v, lv, rv⟩ := lookF_ok e4 hl
          rw [hc]
          refine ⟨true, hx, fun _ => ⟨rfl, dd', gs, v, e1, e3, lv, (by show 1 ≤ sizeLine; decide), fun p hp => ?_⟩, fun z => by cases z⟩
          refine po (.ref p) _ (mu' ++ [p]) (e.trans (Ext.allocd hp)) (hr.allocd hp ⟨[v], upd_same, .one (rv.mono (Ext.allocd hp))⟩) (.ref ?_)
          rw [← hr.len]; simp
    · rw [if_neg hc] at po; exact po.elim
  | bad => exact po.elim
end DS

set_option Elab.async false
set_option linter.all false
set_option maxRecDepth 100000
set_option maxHeartbeats 4000000
/-! DXT: dicts of tuples that change: displays, in, put, list, for. -/
namespace DS
open PySem PySem.Spec PyProof.Rows L2
def vInT : O2
  | e, .ref n, h => match h[n]?.bind tdO, keyN e with
    | some kvs, some k => some (.bl (getN kvs k).isSome, h)
    | _, _ => none
  | _, _, _ => none
def vNotInT : O2
  | e, .ref n, h => match h[n]?.bind tdO, keyN e with
    | some kvs, some k => some (.bl (!(getN kvs k).isSome), h)
    | _, _ => none
  | _, _, _ => none
def vTPut (o i v : D) (h : Hs) : Option Hs := match o with
  | .ref n => match h[n]?, keyN i with
    | some (.dtt kvs), some k => if Nat.blt kvs.length 100000 = true then some (h.set n (.dtt (setN kvs k i v))) else none
    | _, _ => none
  | _ => none
def vKeysT : ON
  | [.ref n], h => match h[n]?.bind tdO with
    | some kvs => some (.ref h.length, h ++ [.lst (kvs.map (·.1))])
    | _ => none
  | _, _ => none
def keysN : List (D × D) → Option (List (NestedKey × D × D))
  | [] => some []
  | p :: r => (keyN p.1).bind fun k => (keysN r).map ((k, p) :: ·)
def eDictT (r : List (ME × ME)) : ME := fun env h => (ePairs r env h).bind fun ps h1 => match keysN ps with
  | some qs => .ok (.ref h1.length) (h1 ++ [.dtt (mrgN qs)])
  | none => .bad
/-- a dict that is walked is still from then on -/
def iDictT (a : ME) : MI := fun env h => (a env h).bind fun x h1 => match x with
  | .ref n => match h1[n]? with
    | some (.dtt kvs) => .ok (.one (.st (kvs.map (·.1)))) (h1.set n (.dtz kvs))
    | some (.dtz kvs) => .ok (.one (.st (kvs.map (·.1)))) h1
    | _ => .bad
  | _ => .bad
section
variable {X : Cx} {cl : CW} {W : WX} {a b c e o i : Expr} {ma mb mo mi : ME} {pos p p2 : Pos}
theorem key_is {pins : List (Addr × Obj)} {σ : Sg} {H : Hp} {s : Shared} {mu : List Addr} (I : Inv X pins σ H s) {e : D} {x : V} {u : Value} {k : NestedKey} (re : Rp X.K H mu e x) (ry : RelV x u) (q : keyN e = some k) : ∃ B, u = .ref B ∧ (nestedKind X.prog X.w).is s.heap k B := by
  obtain ⟨kk, kd, es, rfl⟩ := keyN_ok q
  cases re with
  | @tup B zs _ sb rb =>
    obtain rfl : u = Value.ref B := ry
    exact ⟨B, rfl, nk_is I (.tup es) (.ref B) _ k (.tup sb rb) rfl kk, kd⟩
theorem getN_some {H : Hp} {mu : List Addr} {k : NestedKey} {kvs : List (D × D)} {xs : List (NestedKey × Addr × Value)} (h : Paired (KeyR X.K H mu) kvs xs) : (atKey xs k).isSome = (getN kvs k).isSome := by
  rcases getN_at (k := k) h with ⟨n1, n2⟩ | ⟨dv, pr, v, n1, n2, n3, n4⟩
  · rw [n1, n2]; rfl
  · rw [n1, n2]; rfl
theorem o_inT (hw : cl.w = X.w) (hu : X.A.units + 64 < cLine) : OpR X (compareOp .In) (r2 X.K cl vInT) := by
  intro pins s σ H x y v u Q I rx ry ⟨mu, h, d, e, hr, rd, re, p⟩
  unfold vInT at p
  cases re with
  | @ref n A hn =>
    simp only at p
    cases q1 : h[n]?.bind tdO with
    | none => rw [q1] at p; exact p.elim
    | some kvs =>
      rw [q1] at p
      cases q2 : keyN d with
      | none => rw [q2] at p; exact p.elim
      | some k =>
        rw [q2] at p
        obtain ⟨xs, dd, g5, g3, g4⟩ := td_at I hw hr q1 hn
        obtain rfl : u = Value.ref A := ry
        obtain ⟨B, rfl, hk⟩ := key_is I rd rx q2
        refine wpAny_in_heap (knd := nestedKind X.prog X.w) (show X.A.units + 1 + 8 < cLine by omega) hk g4 dd ⟨.bl (atKey xs k).isSome, H, I.tok _, rfl, ?_⟩
        rw [getN_some g5]
        exact p _ _ _ (Ext.refl _ _) hr (.bl _)
  | _ => exact p.elim
theorem o_notInT (hw : cl.w = X.w) (hu : X.A.units + 64 < cLine) : OpR X (compareOp .NotIn) (r2 X.K cl vNotInT) := by
  intro pins s σ H x y v u Q I rx ry ⟨mu, h, d, e, hr, rd, re, p⟩
  unfold vNotInT at p
  cases re with
  | @ref n A hn =>
    simp only at p
    cases q1 : h[n]?.bind tdO with
    | none => rw [q1] at p; exact p.elim
    | some kvs =>
      rw [q1] at p
      cases q2 : keyN d with
      | none => rw [q2] at p; exact p.elim
      | some k =>
        rw [q2] at p
        obtain ⟨xs, dd, g5, g3, g4⟩ := td_at I hw hr q1 hn
        obtain rfl : u = Value.ref A := ry
        obtain ⟨B, rfl, hk⟩ := key_is I rd rx q2
        show wpAny (model X.prog X.w) X.A (do return Value.bool (!(← contains (.ref A) (.ref B)))) _ _ _
        refine wpAny_bind (wpAny_contains_heap (knd := nestedKind X.prog X.w) (show X.A.units + 1 + 8 < cLine by omega) hk g4 dd (wpAny_pure ⟨.bl (!(atKey xs k).isSome), H, I.tok _, rfl, ?_⟩))
        rw [getN_some g5]
        exact p _ _ _ (Ext.refl _ _) hr (.bl _)
  | _ => exact p.elim
/-- d[k] = v -/
theorem ss_tput (hw : cl.w = X.w) (hu : X.A.units + 64 < cLine) (hv : SE X cl W e ma) (ho : SE X cl W o mo) (hi : SE X cl W i mi) (hs : swapsWith e (some (.Subscript o i p2)) pos.line X.env = pure false := by rfl) : SS X cl W (.Assign [.Subscript o i p2] e pos) (sPut vTPut ma mo mi) := by
  refine ⟨fun pins s σ H D I ⟨mu, env, h, rel, p⟩ => ?_⟩
  unfold sPut at p
  refine wpAny_Assign_Subscript (thn (hv.run pins s σ H _ I ⟨mu, env, h, rel, (PostS.of rel.er p)⟩) fun r s1 ⟨v, H1, I1, rv, mu1, d1, h1, e1, hr1, rb1, p1⟩ => thn (ho.run pins s1 σ H1 _ I1 ⟨mu1, env, h1, ⟨hr1, rel.er.mono e1⟩, (PostS.of (rel.er.mono e1) p1)⟩) fun u s2 ⟨x, H2, I2, rx, mu2, d2, h2, e2, hr2, rb2, p2⟩ => thn (hi.run pins s2 σ H2 _ I2 ⟨mu2, env, h2, ⟨hr2, (rel.er.mono e1).mono e2⟩, (PostS.of ((rel.er.mono e1).mono e2) p2)⟩) fun iv s3 ⟨y, H3, I3, ry, mu3, d3, h3, e3, hr3, rb3, p3⟩ => ?_) hs
  cases q : vTPut d2 d3 d1 h3 with
  | none => rw [q] at p3; exact p3.elim
  | some h' =>
    rw [q] at p3
    have rb2 := rb2.mono e3
    have rb1 := (rb1.mono e2).mono e3
    have er := ((rel.er.mono e1).mono e2).mono e3
    cases rb2 with
    | @ref n A hn =>
      unfold vTPut at q
      simp only at q
      cases q1 : h3[n]? with
      | none => rw [q1] at q; cases q
      | some ob =>
        rw [q1] at q
        cases ob with
        | dtt kvs =>
          cases q2 : keyN d3 with
          | none => rw [q2] at q; cases q
          | some k =>
            rw [q2] at q
            simp only at q
            split at q
            · rename_i hz
              cases q
              obtain ⟨A', hA, xs, g1, g2, g3, g4, g5⟩ := hr3.at q1
              rw [hn] at hA; cases hA
              have dd := td_ok I3 hw (I3.hok _ _ g1) g2 g5
              obtain rfl : u = Value.ref A := rx
              obtain ⟨kk, kd, es, rfl⟩ := keyN_ok q2
              obtain ⟨B, rfl, hk⟩ := key_is I3 rb3 ry q2
              have lx : kvs.length = xs.length := paired_len g5
              have hz' : kvs.length < 100000 := by simpa [Nat.blt_eq] using hz
              have sl : sizeLine = 16777216 := by decide
              refine wpAny_setItem_heap (hsz := by omega) (knd := nestedKind X.prog X.w) (show X.A.units + 1 + 8 < cLine by omega) hk dd fun h' hm hs => ?_
              have ryB : y = .ref B := by
                cases y with
                | ref b => cases ry; rfl
                | _ => cases rb3
              subst ryB
              have E : Ext H3 mu3 (upd H3 A (TDx cl.w A (storedH xs k B r))) mu3 := Ext.written hn g1 (by intro _ z; cases z) (fun z => z)
              have new : KeyR X.K H3 mu3 (.tup es, d1) (k, B, r) := ⟨kk, kd, rb3, v, rv, rb1⟩
              refine ⟨σ, upd H3 A (TDx cl.w A (storedH xs k B r)), d_write I3 (by rw [g1]; exact True.intro) hs (let ⟨q, _, _, hq, _⟩ := hm; ⟨q, hq⟩) (tdx_ok hw hm), ?_⟩
              refine p3 _ _ _ E (hr3.written hn g1 (by intro _ z; cases z) (fun z => z) ⟨_, upd_same, ?_, ?_, g4, ?_⟩) (er.mono E)
              · obtain ⟨_, _, _, _, _, _, _, _, nn⟩ := hm; exact nn
              · have := setN_len kvs k (.tup es) d1; omega
              · exact Paired.mapP (setN_ok g5 new) fun _ _ ⟨z1, z2, z3, v, z4, z5⟩ => ⟨z1, z2, z3.mono E, v, z4, z5.mono E⟩
            · cases q
        | lst _ => cases q
        | otp _ => cases q
        | dct _ => cases q
        | dtz _ => cases q
        | ins _ _ => cases q
        | xob _ _ => cases q
    | _ => cases q
end
end DS

set_option Elab.async false
set_option linter.all false
set_option maxRecDepth 100000
set_option maxHeartbeats 4000000
/-! DXV: list(d), {k: v}, for k in d of dicts of tuples. -/
namespace DS
open PySem PySem.Spec PyProof.Rows L2
section
variable {X : Cx} {cl : CW} {W : WX} {a b c e o i : Expr} {ma mb mo mi : ME} {pos p p2 : Pos}
theorem paired_keys {H : Hp} {mu : List Addr} : ∀ {kvs : List (D × D)} {xs : List (NestedKey × Addr × Value)}, Paired (KeyR X.K H mu) kvs xs → RpA X.K H mu (kvs.map (·.1)) ((xs.map fun x => x.2.1).map V.ref)
  | _, _, .nil => .nil
  | _, _, .cons a b => .cons a.2.2.1 (paired_keys b)
theorem b_listT (hw : cl.w = X.w) (hc : X.calm = true) : CallR X (.type "list") (rN X.K cl vKeysT) := by
  intro pins s σ H xs us Q I r ⟨mu, h, ds, hr, ra, p⟩
  cases ra with
  | nil => exact p.elim
  | @cons d v _ _ rd rest =>
    cases rd with
    | @ref n A hn =>
      cases rest with
      | cons _ _ => exact p.elim
      | nil =>
        obtain ⟨u, rfl, rv⟩ := vals1 r
        unfold vKeysT at p
        simp only at p
        cases q1 : h[n]?.bind tdO with
        | none => rw [q1] at p; exact p.elim
        | some kvs =>
          rw [q1] at p
          obtain ⟨ks, dd, g5, g3, g4⟩ := td_at I hw hr q1 hn
          obtain rfl : u = Value.ref A := rv
          obtain ⟨o, es, ep, ho, hx, hdt, he, _⟩ := id dd
          have l1 : es.size = ks.length := size_of_entries he
          have l2 : kvs.length = ks.length := paired_len g5
          refine PySem.W.kdl_call (kdl_raw g4 hx hdt) (I.ok.hd hc) ho (by omega) fun h' tk acc' c' kp e it => ?_
          have ea : acc'.toList = ks.map fun x => Value.ref x.2.1 := by
            have hl : acc'.toList.length = ks.length := by rw [Array.length_toList, it.1]; exact l1
            apply List.ext_getElem?
            intro j
            rw [List.getElem?_map]
            cases hj : acc'.toList[j]? with
            | none =>
              have h1 := List.getElem?_eq_none_iff.mp hj
              rw [List.getElem?_eq_none (by omega)]
              all_goals rfl
            | some v =>
              obtain ⟨en, hen, hv⟩ := it.2 j v (by rw [← Array.getElem?_toList]; exact hj)
              have qe := entry_at he j
              rw [hen] at qe
              cases hb : ks[j]? with
              | none =>
                rw [hb] at qe
                exact nomatch (show some en = none from qe)
              | some b =>
                rw [hb] at qe
                have e2 : en = entryOfKey (nestedKind X.prog X.w) b := Option.some.inj qe
                rw [hv, e2]
                all_goals rfl
          have eb : acc'.toList = (ks.map fun x => x.2.1).map Value.ref := by rw [ea, List.map_map]; all_goals rfl
          have rv : Vals ((ks.map fun x => x.2.1).map V.ref) acc'.toList := by rw [eb]; exact vals_refs _
          have hz : ((ks.map fun x => x.2.1).map V.ref).length ≤ sizeLine := by rw [List.length_map, List.length_map]; omega
          have fr : H s.heap.objs.size = none := I.hok.fresh (Nat.le_refl _)
          refine ⟨.ref s.heap.objs.size, _, I.laid (t' := tk) (o := .lst ((ks.map fun x => x.2.1).map V.ref)) kp (Nat.le_refl _) ⟨hz, acc'.toList, c', rv, by rw [Array.toArray_toList]; exact e⟩, rfl, ?_⟩
          have M : Ext H mu (upd H s.heap.objs.size (.lst ((ks.map fun x => x.2.1).map V.ref))) (mu ++ [s.heap.objs.size]) := Ext.allocd fr
          refine p _ _ _ M (hr.allocd fr ⟨_, upd_same, (paired_keys g5).mono M⟩) (.ref ?_)
          rw [← hr.len]; simp
    | non => cases rest <;> exact p.elim
    | bl _ => cases rest <;> exact p.elim
    | int _ => cases rest <;> exact p.elim
    | str _ => cases rest <;> exact p.elim
    | tup _ _ => cases rest <;> exact p.elim
    | sl _ _ => cases rest <;> exact p.elim
/-- the pairs that a display holds -/
theorem keysN_ok {pins : List (Addr × Obj)} {σ : Sg} {H : Hp} {s : Shared} {mu : List Addr} (I : Inv X pins σ H s) : ∀ {rs : List (D × D)} {vs : List (V × V)} {ws : List (Value × Value)} {ps : List (NestedKey × D × D)}, Paired (fun (p : D × D) (q : V × V) => Rp X.K H mu p.1 q.1 ∧ Rp X.K H mu p.2 q.2) rs vs → VV vs ws → keysN rs = some ps →
    ∃ qs : List (NestedKey × Addr × Value), Paired (fun (p : NestedKey × D × D) q => p.1 = q.1 ∧ KeyR X.K H mu p.2 q) ps qs ∧ CarriesH (nestedKind X.prog X.w) s.heap ws qs
  | _, _, _, _, .nil, .nil, q => by cases q; exact ⟨[], .nil, trivial⟩
  | (d, e) :: r, (v1, v2) :: _, (u1, u2) :: _, ps, .cons ⟨a1, a2⟩ b, .cons ⟨t1, t2⟩ t, q => by
    unfold keysN at q
    cases q1 : keyN d with
    | none => simp only [q1] at q; cases q
    | some k =>
      simp only [q1, Option.bind_some] at q
      cases q2 : keysN r with
      | none => rw [q2] at q; cases q
      | some ps' =>
        rw [q2] at q
        cases q
        obtain ⟨qs, r1, r2⟩ := keysN_ok I b t q2
        obtain ⟨kk, kd, ks, rfl⟩ := keyN_ok q1
        have a1' : Rp X.K H mu (.tup ks) v1 := a1
        obtain ⟨B, e1, hk⟩ := key_is I a1' t1 q1
        have e1 : u1 = .ref B := e1
        subst e1
        have ev : v1 = .ref B := by
          cases v1 with
          | ref b => cases t1; rfl
          | _ => cases a1'
        subst ev
        exact ⟨(k, B, u2) :: qs, .cons ⟨rfl, kk, kd, a1', v2, t2, a2⟩ r1, rfl, rfl, hk, r2⟩
theorem keysN_len : ∀ {rs : List (D × D)} {ps : List (NestedKey × D × D)}, keysN rs = some ps → ps.length = rs.length
  | [], _, h => by cases h; rfl
  | d :: r, ps, h => by
    unfold keysN at h
    cases q1 : keyN d.1 with
    | none => rw [q1] at h; cases h
    | some k =>
      rw [q1] at h
      simp only [Option.bind_some] at h
      cases q2 : keysN r with
      | none => rw [q2] at h; cases h
      | some ps' =>
        rw [q2] at h
        cases h
        rw [List.length_cons, List.length_cons, keysN_len q2]
theorem ePairs_len : ∀ {r : List (ME × ME)} {env : En} {h h' : Hs} {a : List (D × D)}, ePairs r env h = .ok a h' → a.length = r.length
  | [], _, _, _, _, q => by cases q; rfl
  | (x, y) :: r, env, h, h', a, q => by
    unfold ePairs at q
    cases q1 : x env h with
    | ok d h1 =>
      rw [q1] at q
      simp only [bind_ok] at q
      cases q2 : y env h1 with
      | ok e h2 =>
        rw [q2] at q
        simp only [bind_ok] at q
        cases q3 : ePairs r env h2 with
        | ok b h3 =>
          rw [q3] at q
          cases q
          rw [List.length_cons, List.length_cons, ePairs_len q3]
        | exc _ _ => rw [q3] at q; cases q
        | bad => rw [q3] at q; cases q
      | exc _ _ => rw [q2] at q; cases q
      | bad => rw [q2] at q; cases q
    | exc _ _ => rw [q1] at q; cases q
    | bad => rw [q1] at q; cases q
theorem SPs.len {keys : List (Option Expr)} {values : List Expr} {r : List (ME × ME)} (h : SPs X cl W pos keys values r) : r.length = keys.length := by
  induction h with
  | nil => rfl
  | cons _ _ _ ih => rw [List.length_cons, List.length_cons, ih]
theorem dk_td {P : Program} {w : World} {H : Hp} {h : Heap} {a : Addr} (z : ObjOk P w H h a (.dK [])) : h.DictOfH (nestedKind P w) a [] := by
  obtain ⟨_, _, vs, kv, o, es, ep, q1, q2, q3, q4, q5, q6⟩ := z
  cases kv
  refine ⟨o, es, ep, q1, q2, q3, ?_, (fun x hx => by cases hx), List.nodup_nil⟩
  have := q5.length
  exact List.length_eq_zero_iff.mp (by simpa using this)
theorem se_dictT {keys : List (Option Expr)} {values : List Expr} {r : List (ME × ME)} (hw : cl.w = X.w) (hu : X.A.units + 64 < cLine) (h : SPs X cl W pos keys values r) (hall : keys.all (·.isSome) = true := by rfl) (hl : keys.length = values.length := by rfl) (h0 : keys ≠ [] := by exact fun z => by cases z)
    (h15 : keys.length ≤ 15 := by decide) : SE X cl W (.Dict keys values pos) (eDictT r) := by
  refine ⟨fun pins s sg H Q I ⟨mu, env, hh, rel, p⟩ => ?_⟩
  have hq : H s.heap.objs.size = none := I.hok.fresh (Nat.le_refl s.heap.objs.size)
  have I1 := I.laid (a := s.heap.objs.size) (o := .dK []) (h' := s.heap.push { cls := .type "dict", data := .dict #[] }) (t' := s.toks) (fun _ _ q => Heap.get?_push_of_some _ q) (Nat.le_refl _) (dk_empty s.heap I.big)
  generalize hqq : s.heap.objs.size = q at hq I1
  have nq : q ∉ mu := rel.hr.fresh hq
  have E0 : Ext H mu (upd H q (.dK [])) mu := Ext.tupled hq
  have hn := pairTrees_length keys values X.env pos hall hl
  rw [arm_eval_Dict, zip_pairTrees keys values X.env pos hall hl, dictDisplay_pairs (pairTrees keys values X.env pos) (fun he => by rw [he] at hn; exact h0 (List.length_eq_zero_iff.mp hn.symm)) (by omega)]
  refine wpAny_bind (wpAny_standAt (wpAny_bind (wpAny_subDictH (knd := nestedKind X.prog X.w) (Q := fun d s' => wpAny (model X.prog X.w) X.A (pure (Value.ref d)) (EP X pins sg Q) X.xe s') (show X.A.units + 8 < cLine by omega) (by omega) ?_)))
  refine thn (h.pps.run pins _ sg (upd H q (.dK [])) _ I1 (tPairs_ok r sg _ mu env hh (fun ps H2 => H2 q = some (.dK []) ∧ ∃ rs mu' h' kvs, Paired (fun (p : D × D) (q : V × V) => Rp X.K H2 mu' p.1 q.1 ∧ Rp X.K H2 mu' p.2 q.2) rs ps ∧ keysN rs = some kvs ∧ rs.length ≤ 15 ∧ HR X.K H2 mu' cl h' ∧ q ∉ mu' ∧ Ext H mu H2 mu' ∧ Post (Rp X.K) X.K cl W sg H mu (.ok (.ref h'.length) (h' ++ [.dtt (mrgN kvs)])) Q) ⟨rel.hr.tupled hq, rel.er.mono E0⟩ ?_)) fun ws s2 ⟨ps, H2, I2, rv, hq2, rs, mu', h', kvs, rb, q1, h6, hr, nq', e', p'⟩ => ?_
  · unfold eDictT at p
    cases q0 : ePairs r env hh with
    | ok a h' =>
      rw [q0] at p
      intro b H' mu' e' hr rb
      have nq' : q ∉ mu' := fun hm => by
        have := e'.new q hm nq _ upd_same
        cases this
      have hq' : H' q = some (.dK []) := e'.frame q _ upd_same nq rfl
      simp only [bind_ok] at p
      cases q1 : keysN a with
      | none => rw [q1] at p; exact p.elim
      | some kvs =>
        rw [q1] at p
        exact ⟨hq', a, mu', h', kvs, rb, q1, (by rw [ePairs_len q0, h.len]; exact h15), hr, nq', E0.trans e', p⟩
    | exc x h' =>
      rw [q0] at p
      exact fun c dd H' mu' e' hr hx => p c dd H' mu' (E0.trans e') hr hx
    | bad => rw [q0] at p; exact p
  · obtain ⟨qs, k1, k2⟩ := keysN_ok I2 rb rv q1
    have dd := dk_td (I2.hok _ _ hq2)
    refine ⟨qs, k2, by rw [hqq]; exact dd, fun h2 tk dd' hs => wpAny_pure ?_⟩
    rw [hqq] at dd' hs
    have pr : Paired (KeyR X.K H2 mu') (mrgN kvs) (storedAllH [] qs) := mrg_ok k1 .nil
    have nd : ((storedAllH [] qs).map (·.1)).Nodup := dd'.nodup
    have big : (q == sysModules) = false := (I2.hok _ _ hq2).2.1
    have M : Mo H2 mu' (upd H2 q (TDx cl.w q (storedAllH [] qs))) (mu' ++ [q]) := ⟨fun a xs e => by
      have : a ≠ q := fun z => by subst z; rw [hq2] at e; cases e
      rw [upd_ne this]; exact e, fun a x w e => by
      have : a ≠ q := fun z => by subst z; rw [hq2] at e; cases e; exact w
      rw [upd_ne this]; exact e, List.prefix_append _ _⟩
    refine ⟨.ref q, upd H2 q (TDx cl.w q (storedAllH [] qs)), d_write I2 (by rw [hq2]; exact True.intro) hs (let ⟨o, _, _, ho, _⟩ := dd'; ⟨o, ho⟩) (tdx_ok hw dd'), by rw [hqq]; exact rfl, ?_⟩
    refine p' _ _ _ (e'.joined hq) (hr.joined nq' (fun _ z => by rw [hq2] at z; cases z) (fun _ st z => by rw [hq2] at z; cases z; exact st) ⟨_, upd_same, nd, ?_, big, Paired.mapP pr fun _ _ ⟨z1, z2, z3, v, z4, z5⟩ => ⟨z1, z2, z3.mo M, v, z4, z5.mo M⟩⟩) (.ref ?_)
    · have h1 := mrg_len kvs []
      have h2 := keysN_len q1
      have h3 := paired_len k1
      have h4 := k2.length
      have h5 : (mrgN kvs).length ≤ kvs.length := by simpa [mrgN] using h1
      have sl : sizeLine = 16777216 := by decide
      omega
    · rw [← hr.len]; simp
/-- the keys of a still dict -/
def Itz (w : World) (d : Addr) (o : Obj) (xs : List (NestedKey × Addr × Value)) : It :=
  ⟨fun i H => H d = some (.frz o (TDx w d xs)) ∧ i < xs.length, fun i H x H' => H' = H ∧ ∃ y, xs[i]? = some y ∧ x = .ref y.2.1, fun i H => H d = some (.frz o (TDx w d xs)) ∧ xs.length ≤ i⟩
theorem frzTD {pins : List (Addr × Obj)} {σ : Sg} {H : Hp} {s : Shared} {d : Addr} {o : Obj} {xs : List (NestedKey × Addr × Value)} (I : Inv X pins σ H s) (h : H d = some (.frz o (TDx X.w d xs))) :
    s.heap.get? d = some o ∧ o.ExactDict ∧ ∃ (es : Array DictEntry) (ep : Nat), o.data = .dict es ep ∧ es.size = xs.length ∧ ∀ (i : Nat) (y : NestedKey × Addr × Value), xs[i]? = some y → ∃ en : DictEntry, es[i]? = some en ∧ en.key = .ref y.2.1 := by
  obtain ⟨ho, z⟩ := I.hok d _ h
  have z : ObjOk X.prog X.w H s.heap d (.ext fun h => ∃ o es ep, h.get? d = some o ∧ o.ExactDict ∧ o.data = .dict es ep ∧ es.toList = xs.map fun x => (⟨x.1.hash X.w, .ref x.2.1, x.2.2⟩ : DictEntry)) := z
  obtain ⟨⟨o', es, ep, q1, q2, q3, q4⟩, _, _⟩ := z
  rw [ho] at q1
  cases q1
  refine ⟨ho, q2, es, ep, q3, by rw [← Array.length_toList, q4, List.length_map], fun i y hy => ?_⟩
  refine ⟨⟨y.1.hash X.w, .ref y.2.1, y.2.2⟩, ?_, rfl⟩
  rw [← Array.getElem?_toList, q4, List.getElem?_map, hy]
  rfl
theorem turn_dz {P : Program} {w : World} {K : PySem.W.Frag} {tg : Expr} {d : Addr} {o : Obj} {xs : List (NestedKey × Addr × Value)} {es : Array DictEntry} {ep : Nat} (it : Addr) (hod : o.data = .dict es ep) : Turn P w K tg (Itz w d o xs) [it] it (fun i h => h.IsKeyIter it d i xs.length ep) where
  mem := by simp
  obj := fun i h st b hb => by
    have e : b = it := by simpa using hb
    subst e
    obtain ⟨oi, e, c, dd⟩ := st
    exact ⟨oi, e, fun v z => by rw [dd] at z; cases z⟩
  keep := fun i h h' st k => st.at fun oi e => k it (by simp) oi e
  item := by
    intro X hP hw hK hc i pins s σ H E I hf st hg
    subst hP hw hK
    obtain ⟨hd, hi⟩ := hg
    obtain ⟨f0, f1, f2, f3, f4, f5⟩ := hf it (by simp)
    obtain ⟨hgd, hx, es', ep', hdt, hsz, ent⟩ := frzTD I hd
    obtain ⟨rfl, rfl⟩ := dict_ep hod hdt
    obtain ⟨y, hy⟩ : ∃ p, xs[i]? = some p := ⟨xs[i], List.getElem?_eq_getElem hi⟩
    obtain ⟨en, hen, hkey⟩ := ent i y hy
    refine next_key_item st hgd hdt hsz hen fun h' st' sb => ?_
    have I1 : Inv X pins σ H { s with heap := h' } := I.turned (t' := s.toks) (fun b ob hb e => (sb.2 b hb).trans e) f0 f1 f3 f4 f5
    obtain ⟨oi, e, c, dd⟩ := id st'
    exact ⟨en.key, rfl, go_of (s := { s with heap := h' }) e c dd (by decide) ⟨.ref y.2.1, H, I1, hkey, ⟨rfl, y, hy, rfl⟩, st', fun b hb => (hf b hb).1⟩⟩
  done := by
    intro X hP hw hK hc i pins s σ H E I hf st hg
    subst hP hw hK
    obtain ⟨hd, hi⟩ := hg
    obtain ⟨f0, f1, f2, f3, f4, f5⟩ := hf it (by simp)
    obtain ⟨hgd, hx, es', ep', hdt, hsz, ent⟩ := frzTD I hd
    obtain ⟨rfl, rfl⟩ := dict_ep hod hdt
    exact next_key_end (I.ok.hd hc) st hgd hdt hsz hi fun h' eb => ⟨rfl, I.turned (t' := s.toks) (fun b ob hb e => eb b ob hb e) f0 f1 f3 f4 f5⟩
  self := fun A i s Q E st h => by
    refine wpAny_pyIter_slot st.typeIs F.slot_dict_keyiterator_iter (wpAny_call_entry F.slot_dict_keyiterator_iter st.typeIs F.entry_dict_keyiterator_iter ?_ (F.args_dict_keyiterator_iter_1 _))
    show wpAny _ _ (ret (.ref it)) _ _ s
    exact wpAny_pure ⟨_, rfl, "dict_keyiterator", _, st.typeIs, F.slot_dict_keyiterator_next.lookup, h⟩
theorem it_dz {K : PySem.W.Frag} {H : Hp} {mu : List Addr} {w : World} {d : Addr} {o : Obj} {kvs : List (D × D)} {xs : List (NestedKey × Addr × Value)} (hd : H d = some (.frz o (TDx w d xs))) (pr : Paired (KeyR K H mu) kvs xs) : ItOK K cl H mu (.one (.st (kvs.map (·.1)))) (Itz w d o xs) := fun H1 mu1 h i m hr => by
  have hl : kvs.length = xs.length := paired_len pr
  have h1 : H1 d = some (.frz o (TDx w d xs)) := m.frz _ _ trivial hd
  refine ⟨fun e he => ?_, fun he => ?_⟩
  · simp only [Iter.get, Src.get, Option.some.injEq] at he
    rw [List.getElem?_map] at he
    cases q : kvs[i]? with
    | none => rw [q] at he; cases he
    | some y =>
      rw [q] at he
      cases he
      have hi : i < kvs.length := (List.getElem?_eq_some_iff.mp q).1
      refine ⟨⟨h1, by omega⟩, fun x H' ⟨e1, z, hz, ex⟩ => ?_⟩
      subst e1
      obtain ⟨z', hz', r⟩ := paired_at pr q
      rw [hz'] at hz; cases hz
      subst ex
      exact ⟨Ext.refl _ _, hr, r.2.2.1.mo m⟩
  · simp only [Iter.get, Src.get, Option.some.injEq] at he
    rw [List.getElem?_map] at he
    cases q : kvs[i]? with
    | none => exact ⟨h1, by have := List.getElem?_eq_none_iff.mp q; omega⟩
    | some y => rw [q] at he; cases he
theorem si_dict {tg : Expr} (hw : cl.w = X.w) (ha : SE X cl W a ma) : SI X cl W tg a (iDictT ma) := by
  refine ⟨fun pins s σ H R I h => ?_⟩
  obtain ⟨mu, env, hh, rel, p⟩ := h
  refine thn (ha.run pins s σ H _ I ⟨mu, env, hh, rel, Post.bind p⟩) fun v s1 ⟨x, H1, I1, r1, q1⟩ => ?_
  obtain ⟨mu1, d, h1, e, hr, rb, p1⟩ := q1
  cases rb with
  | @ref n A hn =>
    obtain rfl : v = Value.ref A := r1
    simp only at p1
    have fin : ∀ {H2 : Hp} {h2 : Hs} {kvs : List (D × D)} (o : Obj) (xs : List (NestedKey × Addr × Value)), Inv X pins σ H2 s1 → Ext H1 mu1 H2 mu1 → HR X.K H2 mu1 cl h2 → H2 A = some (.frz o (TDx cl.w A xs)) → (A == sysModules) = false → Paired (KeyR X.K H2 mu1) kvs xs →
        Post (ItOK X.K cl) X.K cl W σ H1 mu1 (.ok (.one (.st (kvs.map (·.1)))) h2) R → wpAny (model X.prog X.w) X.A (pyIter (.ref A)) (PIE X pins σ tg R) X.xe s1 := by
      intro H2 h2 kvs o xs I2 E hr2 hd big pr pp
      have hd' := hd
      rw [hw] at hd'
      obtain ⟨hgd, hx, es, ep, hdt, hsz, ent⟩ := frzTD I2 hd'
      refine iter_keys big hgd hx hdt (pi_one (tk := s1.toks) I2 _ (turn_dz (xs := xs) _ hdt) ⟨_, Heap.get?_push_size _ rfl, rfl, ?_⟩ (pp _ _ _ E hr2 (it_dz hd' pr)))
      rw [hsz] <;> rfl
    cases q9 : h1[n]? with
    | none => rw [q9] at p1; exact p1.elim
    | some ob =>
      rw [q9] at p1
      cases ob with
      | dtt kvs =>
        obtain ⟨A', hA, xs, g1, g2, g3, g4, g5⟩ := hr.at q9
        rw [hn] at hA; cases hA
        obtain ⟨od, I2⟩ := I1.lock g1 True.intro
        have E : Ext H1 mu1 (upd H1 A (.frz od (TDx cl.w A xs))) mu1 := Ext.written hn g1 (by intro _ z; cases z) (fun z => z)
        have pr := Paired.mapP g5 fun _ _ ⟨z1, z2, z3, v, z4, z5⟩ => (⟨z1, z2, z3.mono E, v, z4, z5.mono E⟩ : KeyR X.K (upd H1 A (.frz od (TDx cl.w A xs))) mu1 _ _)
        exact fin (h2 := h1.set n (.dtz kvs)) (kvs := kvs) od xs I2 E (hr.written hn g1 (by intro _ z; cases z) (fun z => z) ⟨xs, ⟨od, upd_same⟩, g2, g3, g4, pr⟩) upd_same g4 pr p1
      | dtz kvs =>
        obtain ⟨A', hA, xs, ⟨o, g1⟩, g2, g3, g4, g5⟩ := hr.at q9
        rw [hn] at hA; cases hA
        exact fin o xs I1 (Ext.refl _ _) hr g1 g4 g5 p1
      | lst _ => exact p1.elim
      | otp _ => exact p1.elim
      | dct _ => exact p1.elim
      | ins _ _ => exact p1.elim
      | xob _ _ => exact p1.elim
  | _ => exact p1.elim
theorem se_dictT0 (hw : cl.w = X.w) : SE X cl W (.Dict [] [] pos) (eDictT []) := by
  refine ⟨fun pins s sg H Q I ⟨mu, env, hh, rel, p⟩ => ?_⟩
  have hq : H s.heap.objs.size = none := I.hok.fresh (Nat.le_refl s.heap.objs.size)
  have p' : Post (Rp X.K) X.K cl W sg H mu (.ok (.ref hh.length) (hh ++ [.dtt []])) Q := p
  have big : (s.heap.objs.size == sysModules) = false := beq_eq_false_iff_ne.mpr (Nat.ne_of_gt I.big)
  have M : Ext H mu (upd H s.heap.objs.size (TDx cl.w s.heap.objs.size [])) (mu ++ [s.heap.objs.size]) := Ext.allocd hq
  refine wpAny_Dict_empty ⟨.ref s.heap.objs.size, _, I.laid (a := s.heap.objs.size) (o := TDx cl.w s.heap.objs.size []) (t' := s.toks) (fun _ _ q => Heap.get?_push_of_some _ q) (Nat.le_refl _) (tdx_ok hw (Heap.DictOfH.new s.heap)), rfl, ?_⟩
  refine p' _ _ _ M (rel.hr.allocd hq ⟨[], upd_same, List.nodup_nil, Nat.zero_le _, big, .nil⟩) (.ref ?_)
  rw [← rel.hr.len]; simp
theorem RpA.rev {H : Hp} {mu : List Addr} : ∀ {ds : List D} {vs : List V}, RpA X.K H mu ds vs → RpA X.K H mu ds.reverse vs.reverse
  | _, _, .nil => .nil
  | _, _, .cons a b => by
    rw [List.reverse_cons, List.reverse_cons]
    exact (RpA.rev b).append (.one a)
def vRevL : O1
  | .ref n, h => match h[n]? with
    | some (.lst xs) => some (.ref h.length, h ++ [.lst xs.reverse])
    | _ => none
  | _, _ => none
theorem se_rev {k : Nat} {p1 p2 p3 : Pos} (ha : SE X cl W a ma) : SE X cl W (.Subscript a (.Slice none none (some (.UnaryOp .USub (.Constant (.int 1) k p1) p2)) p3) pos) (eOp1 vRevL ma) :=
  PE.imp (pe_revL ha) fun sg H Q ⟨mu, env, h, rel, p⟩ => ⟨mu, env, h, rel, (Post.bind p).mono fun b H1 ⟨mu1, d, h1, e, hr, rb, p1⟩ => by
    cases rb with
    | @ref n A hn =>
      unfold vRevL at p1
      simp only at p1
      cases q : h1[n]? with
      | none => rw [q] at p1; exact p1.elim
      | some ob =>
        rw [q] at p1
        cases ob with
        | lst xs =>
          obtain ⟨A', hA, vs, g1, g2⟩ := hr.at q
          rw [hn] at hA; cases hA
          refine ⟨A, vs, rfl, .inl (.inl g1), fun q hq => ?_⟩
          have M : Ext H1 mu1 (upd H1 q (.lst vs.reverse)) (mu1 ++ [q]) := Ext.allocd hq
          refine p1 _ _ _ M (hr.allocd hq ⟨_, upd_same, (RpA.rev g2).mono M⟩) (.ref ?_)
          rw [← hr.len]; simp
        | _ => exact p1.elim
    | _ => exact p1.elim⟩
end
end DS

set_option Elab.async false
set_option linter.all false
set_option maxRecDepth 100000
set_option maxHeartbeats 4000000
/-! DXY: tuples as objects (known to have no dict of their own): t.index(x). -/
namespace DS
open PySem PySem.Spec PyProof.Rows L2
section
variable {X : Cx} {e : Expr} {es : List Expr} {t : TA} {to : TE} {pos : Pos}
def tTupF (t : TA) : TE := fun σ H Q => t σ H fun xs H1 => xs.length ≤ sizeLine ∧ ∀ (p : Addr) (o : Obj), H1 p = none → o.cls = .type "tuple" → o.dict = none → Q (.ref p) (upd H1 p (.frz o (.tup xs)))
theorem pe_tupF {x1} (h : PA X es t) : PE X (.Tuple es x1 pos) (tTupF t) := by
  refine ⟨fun pins s σ H Q I hq => ?_⟩
  refine wpAny_Tuple_spliced (thn (h.run pos pins s σ H _ I hq) fun us s1 ⟨xs, H1, I1, r, z, q⟩ => ⟨by rw [← r.length]; exact z, ?_⟩)
  have hf : H1 s1.heap.objs.size = none := I1.hok.fresh (Nat.le_refl _)
  refine ⟨.ref s1.heap.objs.size, upd H1 s1.heap.objs.size (.frz { cls := .type "tuple", data := .seq us.toArray } (.tup xs)), I1.laid (t' := s1.toks) (fun b u e => Heap.get?_push_of_some _ e) (Nat.le_refl _) ?_, rfl, q _ _ hf rfl rfl⟩
  exact ⟨Heap.get?_push_size _ rfl, z, us, r, ⟨_, Heap.get?_push_size _ rfl, rfl, _, rfl⟩⟩
/-- the call of a method of a tuple that is known -/
def tBMT (r : V → List V → Hp → VK → Prop) (to : TE) (t : TA) : TE := fun σ H Q => to σ H fun x H1 => (∃ (p : Addr) (o : Obj) (xs : List V), x = .ref p ∧ H1 p = some (.frz o (.tup xs)) ∧ o.cls = .type "tuple" ∧ o.dict = none) ∧ t σ H1 fun xs H2 => r x xs H2 Q
theorem pe_bmT {o : Expr} {name : Str} {id : String} {apos cpos : Pos} {r : V → List V → Hp → VK → Prop} (slot : Slot "tuple" name id) (hty : typeOf (.builtin id) = pure (.type "method_descriptor")) (hm : MtR X id r) (ho : PE X o to) (ha : PA X (e :: es) t)
    (hbase : attributeBase o name X.env (eval o X.env) = eval o X.env := by rfl)
    (hfew : ((backTo cpos (starEach (e :: es) X.env)).all (fun x => !x.1) && (backToKw cpos (keywordEach [] X.env)).all (fun x => x.1.isSome)
      && decide ((e :: es).length + ([] : List Keyword).length + (if ([] : List Keyword).isEmpty then 0 else 1) < 30)) = true := by rfl)
    (hline : (apos.endLine == cpos.line) = true := by rfl) (hs : starEach (e :: es) X.env = (false, eval e X.env) :: starEach es X.env := by rfl) (hplain : (backTo cpos (starEach es X.env)).any (·.1) = false := by rfl) :
    PE X (.Call (.Attribute o name apos) (e :: es) [] cpos) (tBMT r to t) := by
  refine ⟨fun pins s σ H Q I h => ?_⟩
  refine wpAny_Call_method_late hbase hfew hline rfl (thn (ho.run pins s σ H _ I h) fun v s1 ⟨x, H1, I1, r1, ty, q1⟩ => ?_)
  obtain ⟨p, ob, ys, rfl, e1, e2, e3⟩ := ty
  cases r1
  have hg : s1.heap.get? p = some ob := (I1.hok p _ e1).1
  refine ⟨"tuple", id, PySem.F.plainAttrs_tuple, slot, hty, ⟨ob, hg, e2⟩, fun a z => ?_, ?_⟩
  · cases z
    exact ⟨ob, hg, e3⟩
  have hA := ha.run cpos pins s1 σ H1 _ I1 q1
  rw [hs] at hA ⊢
  refine Calls.callWith_builtin (by show (false || (backTo cpos (starEach es X.env)).any (·.1)) = false; rw [hplain] <;> rfl) (Calls.evalArgs_plain ?_)
  exact thn hA fun us s2 ⟨vs, H2, I2, r2, q2⟩ => hm pins s2 σ H2 (.ref p) vs (.ref p) us Q I2 rfl r2 q2
end
/-! ### meanings -/
def vTpO : ON := fun ds h => if ds.length ≤ sizeLine then some (.ref h.length, h ++ [.otp ds]) else none
/-- a tuple that is an object, as a value -/
def plain1 (h : Hs) : D → D
  | .ref n => match h[n]? with
    | some (.otp xs) => .tup xs
    | _ => .ref n
  | d => d
def vPlain : O1 := fun d h => match plain1 h d with
  | .tup xs => some (.tup (xs.map (plain1 h)), h)
  | d => some (d, h)
def isTO (d : D) (h : Hs) : Bool := match d with
  | .ref n => match h[n]? with
    | some (.otp _) => true
    | _ => false
  | _ => false
def eMethO (g : OM) (a : ME) (b : MA) : ME := fun env h => (a env h).bind fun x h1 => if isTO x h1 = true then (b env h1).bind fun ys h2 => lft (g (plain1 h2 x) ys h2) else .bad
section
variable {K : PySem.W.Frag} {cl : CW} {H : Hp} {mu : List Addr} {h : Hs}
theorem plain1_ok (hr : HR K H mu cl h) {d : D} {v : V} (r : Rp K H mu d v) : Rp K H mu (plain1 h d) v := by
  cases r with
  | @ref n a hn =>
    unfold plain1
    simp only
    split
    · rename_i xs q
      obtain ⟨o, ys, h1, h2, h3, h4⟩ := hr.obj n _ a q hn
      exact .tup (.inl (.inr ⟨o, h1⟩)) h4
    · exact .ref hn
  | non => exact .non
  | bl b => exact .bl b
  | int i => exact .int i
  | str x => exact .str x
  | tup s r => exact .tup s r
  | sl s r => exact .sl s r
theorem plains_ok (hr : HR K H mu cl h) : ∀ {ds : List D} {vs : List V}, RpA K H mu ds vs → RpA K H mu (ds.map (plain1 h)) vs
  | _, _, .nil => .nil
  | _, _, .cons a b => .cons (plain1_ok hr a) (plains_ok hr b)
theorem vPlain_ok (hr : HR K H mu cl h) {d d' : D} {h' : Hs} {v : V} (r : Rp K H mu d v) (e : vPlain d h = some (d', h')) : h' = h ∧ Rp K H mu d' v := by
  have r1 := plain1_ok hr r
  unfold vPlain at e
  split at e
  · rename_i xs q
    rw [q] at r1
    cases r1 with
    | tup s r2 => cases e; exact ⟨rfl, .tup s (plains_ok hr r2)⟩
  · cases e; exact ⟨rfl, r1⟩
end
section
variable {X : Cx} {cl : CW} {W : WX} {e o : Expr} {es : List Expr} {m ma : ME} {ms : MA} {pos : Pos}
theorem se_plain (he : SE X cl W e m) : SE X cl W e (eOp1 vPlain m) :=
  PE.imp he fun sg H Q ⟨mu, env, h, rel, p⟩ => ⟨mu, env, h, rel, (Post.bind p).mono fun b H1 ⟨mu1, d, h1, e, hr, rb, p1⟩ => by
    have p1 := PostO.of p1
    cases q : vPlain d h1 with
    | none => rw [q] at p1; exact p1.elim
    | some z =>
      obtain ⟨d', h'⟩ := z
      obtain ⟨rfl, z2⟩ := vPlain_ok hr rb q
      rw [q] at p1
      exact p1 _ _ _ (Ext.refl _ _) hr z2⟩
theorem se_tupO {x1} (h : SA X cl W es ms) : SE X cl W (.Tuple es x1 pos) (eOpN vTpO ms) :=
  PE.imp (pe_tupF h) fun sg H Q ⟨mu, env, h, rel, p⟩ => ⟨mu, env, h, rel, (Post.bind p).mono fun b H1 ⟨mu1, d, h1, e, hr, rb, p1⟩ => by
    have p1 := PostO.of p1
    unfold vTpO at p1
    split at p1
    · rename_i hz
      refine ⟨by rw [← rb.length]; exact hz, fun q o hq hc hd => ?_⟩
      refine p1 _ _ _ (Ext.allocd hq) (hr.allocd hq ⟨_, _, upd_same, hc, hd, rb.mono (Ext.allocd hq)⟩) (.ref ?_)
      rw [← hr.len]; simp
    · exact p1.elim⟩
theorem isTO_ok {K : PySem.W.Frag} {H : Hp} {mu : List Addr} {h : Hs} {d : D} {v : V} (hr : HR K H mu cl h) (r : Rp K H mu d v) (q : isTO d h = true) : ∃ (p : Addr) (o : Obj) (xs : List V), v = .ref p ∧ H p = some (.frz o (.tup xs)) ∧ o.cls = .type "tuple" ∧ o.dict = none := by
  unfold isTO at q
  cases r with
  | @ref n a hn =>
    simp only at q
    split at q
    · rename_i xs e
      obtain ⟨o, ys, h1, h2, h3, h4⟩ := hr.obj n _ a e hn
      exact ⟨a, o, ys, rfl, h1, h2, h3⟩
    · cases q
  | _ => cases q
theorem se_tix {apos cpos : Pos} (ho : SE X cl W o ma) (ha : SA X cl W [e] ms)
    (hbase : attributeBase o "index" X.env (eval o X.env) = eval o X.env := by rfl)
    (hfew : ((backTo cpos (starEach [e] X.env)).all (fun x => !x.1) && (backToKw cpos (keywordEach [] X.env)).all (fun x => x.1.isSome)
      && decide ([e].length + ([] : List Keyword).length + (if ([] : List Keyword).isEmpty then 0 else 1) < 30)) = true := by rfl)
    (hline : (apos.endLine == cpos.line) = true := by rfl) (hs : starEach [e] X.env = (false, eval e X.env) :: starEach [] X.env := by rfl) :
    SE X cl W (.Call (.Attribute o "index" apos) [e] [] cpos) (eMethO vTIndex ma ms) :=
  PE.imp (pe_bmT PySem.F.slot_tuple_index PySem.F.type_tuple_index (mt_tidx (cl := cl)) ho ha hbase hfew hline hs rfl) fun sg H Q ⟨mu, env, h, rel, p⟩ =>
    ⟨mu, env, h, rel, (Post.bind p).mono fun b H1 ⟨mu1, d, h1, e, hr, rb, p1⟩ => by
      split at p1
      · rename_i hl
        refine ⟨isTO_ok hr rb hl, mu1, env, h1, ⟨hr, rel.er.mono e⟩, (Post.bind p1).mono fun b2 H2 ⟨mu2, d2, h2, e2, hr2, rb2, p2⟩ => ?_⟩
        exact ⟨mu2, h2, plain1 h2 d, d2, hr2, plain1_ok hr2 (rb.mono e2), rb2, .of p2⟩
      · exact p1.elim⟩
end
end DS

set_option Elab.async false
set_option linter.all false
set_option maxRecDepth 100000
set_option maxHeartbeats 4000000
namespace K03
open DS PySem
def c_CHOICES : D := .tup [.tup [.str "any", .str "guess", .str "known"], .tup [.str "cells", .str "wait", .str "store"], .tup [.str "cells", .str "word", .str "sign", .str "all", .str "none"], .tup [.str "never", .str "each", .str "some"], .tup [.str "one", .str "hanging", .str "behind", .str "all"], .tup [.str "took", .str "none"], .tup [.str "eldest", .str "known", .str "ran"]]
def b1_need_rule : MS :=
    (sTidy [1, 2] (sIf (tOrM (tNotM (tsB (eIsi .str (eVar 2)))) (tsB (eOp2 vNotIn (eVar 2) (eOp2 vIx (eC c_CHOICES) (eVar 1))))) sBad sPass))
def l1_need_rule : MS :=
    (sFor (iEnum (eVar 0)) (gTup 2 (gCons (gName 1) (gCons (gName 2) gNil))) b1_need_rule)
def m_need_rule : MS :=
    (sSeq (sIf (tOrM (tNotM (tsB (eIsi .tup (eVar 0)))) (tsB (eOp2 vNe (eOpN vLen (aCons (eVar 0) aNil)) (eOpN vLen (aCons (eC c_CHOICES) aNil))))) sBad sPass)
    (sSeq l1_need_rule
    (sRet (eVar 0))))
def f_need_rule : MF := mFn 3 m_need_rule
def q1_all_rules : ME :=
    (eComp2 [2, 3] (iSeq (eVar 0)) (.nm 2) tTrue (iSeq (eVar 1)) (.nm 3) tTrue [3] (eOpN vTup (aStar (eVar 2) (aCons (eVar 3) aNil))))
def b1_all_rules : MS :=
    (sTidy [1] (sSet 0 q1_all_rules))
def l1_all_rules : MS :=
    (sFor (iSeq (eC c_CHOICES)) (gName 1) b1_all_rules)
def m_all_rules : MS :=
    (sSeq (sSet 0 (eOpN vLst (aCons (eOpN vTup aNil) aNil)))
    (sSeq l1_all_rules
    (sRet (eOpN vTuple (aCons (eVar 0) aNil)))))
def f_all_rules : MF := mFn 4 m_all_rules
def m__law_mixed : MS :=
    (sSeq (sSet 0 (eOp2 vMod (eOpN vInt (aCons (eVar 0) aNil)) (eC (.int 2147483647))))
    (sRet (eOp2 vMod (eOp2 vMul (eOp2 vMod (eOp2 vAdd (eOp2 vAdd (eOp2 vMul (eVar 0) (eOp2 vAdd (eC (.int 48271)) (eOp2 vMul (eOp2 vMul (eC (.int 2)) (eVar 1)) (eVar 1)))) (eOp2 vMul (eC (.int 69621)) (eVar 1))) (eC (.int 11))) (eC (.int 2147483647))) (eC (.int 69621))) (eC (.int 2147483629)))))
def f__law_mixed : MF := mFn 2 m__law_mixed
def q1__law_begin : ME :=
    (eComp [2] (iSeq (eVar 1)) (.nm 2) tTrue (eIfM (tsB (eOp2 vGe (eVar 2) (eOp2 vPow (eC (.int 10)) (eC (.int 18))))) (eVar 2) (eC (.int 0))))
def m__law_begin : MS :=
    (sSeq (sSet 1 (eIfM (tsB (eOp2 vNe (eVar 0) (eOpN vLst aNil))) (eOpN vList (aCons (eVar 0) aNil)) (eOpN vLst (aCons (eC (.int 0)) aNil))))
    (sRet (eDict [((eC (.str "cells")), (eVar 1)), ((eC (.str "lefts")), q1__law_begin), ((eC (.str "at")), (eC (.int 0))), ((eC (.str "room")), (eC (.int 0)))])))
def f__law_begin : MF := mFn 3 m__law_begin
def m__law_draw : MS :=
    (sSeq (sSet 2 (eOp2 vDGet (eVar 0) (eC (.str "at"))))
    (sSeq (sPut vDPut (eOp2 vAdd (eVar 2) (eC (.int 1))) (eVar 0) (eC (.str "at")))
    (sSeq (sSet 3 (eOp2 vMod (eOpN vInt (aCons (eVar 2) aNil)) (eOpN vLen (aCons (eOp2 vDGet (eVar 0) (eC (.str "cells"))) aNil))))
    (sSeq (sSet 4 (eOp2 vIx (eOp2 vDGet (eVar 0) (eC (.str "lefts"))) (eVar 3)))
    (sSeq (sIf (tsB (eOp2 vGt (eVar 4) (eC (.int 0)))) (sSeq (sPut vLPut (eOp2 vFdiv (eVar 4) (eVar 1)) (eOp2 vDGet (eVar 0) (eC (.str "lefts"))) (eVar 3))
    (sRet (eOp2 vMod (eOpN vInt (aCons (eVar 4) aNil)) (eVar 1)))) sPass)
    (sSeq (sSet 5 (eCall 2 f__law_mixed (aCons (eCall 2 f__law_mixed (aCons (eOp2 vIx (eOp2 vDGet (eVar 0) (eC (.str "cells"))) (eVar 3)) (aCons (eVar 2) aNil))) (aCons (eOp2 vAdd (eC (.int 40)) (eVar 2)) aNil))))
    (sRet (eOp2 vMod (eOp2 vFdiv (eOpN vInt (aCons (eOp2 vAdd (eOp2 vMul (eVar 5) (eC (.int 2147483647))) (eCall 2 f__law_mixed (aCons (eVar 5) (aCons (eOp2 vAdd (eC (.int 7)) (eVar 2)) aNil)))) aNil)) (eC (.int 64))) (eVar 1)))))))))
def f__law_draw : MF := mFn 6 m__law_draw
def m__law_rule : MS :=
    (sSeq (sPar2 1 2 (aCons (eOp2 vIx (eOpN vLst (aCons (eC (.str "any")) (aCons (eC (.str "any")) (aCons (eC (.str "guess")) (aCons (eC (.str "known")) aNil))))) (eCall 2 f__law_draw (aCons (eVar 0) (aCons (eC (.int 4)) aNil)))) (aCons (eOp2 vIx (eOpN vLst (aCons (eC (.str "cells")) (aCons (eC (.str "wait")) (aCons (eC (.str "store")) aNil)))) (eCall 2 f__law_draw (aCons (eVar 0) (aCons (eC (.int 3)) aNil)))) aNil)))
    (sSeq (sSet 3 (eOp2 vIx (eOpN vLst (aCons (eC (.str "cells")) (aCons (eC (.str "word")) (aCons (eC (.str "sign")) (aCons (eC (.str "all")) (aCons (eC (.str "cells")) (aCons (eC (.str "none")) aNil))))))) (eCall 2 f__law_draw (aCons (eVar 0) (aCons (eC (.int 6)) aNil)))))
    (sSeq (sSet 4 (eOp2 vIx (eOpN vLst (aCons (eC (.str "never")) (aCons (eC (.str "each")) (aCons (eC (.str "some")) aNil)))) (eCall 2 f__law_draw (aCons (eVar 0) (aCons (eC (.int 3)) aNil)))))
    (sSeq (sSet 5 (eOp2 vIx (eOpN vLst (aCons (eC (.str "one")) (aCons (eC (.str "hanging")) (aCons (eC (.str "behind")) (aCons (eC (.str "all")) (aCons (eC (.str "hanging")) aNil)))))) (eCall 2 f__law_draw (aCons (eVar 0) (aCons (eC (.int 5)) aNil)))))
    (sSeq (sPar2 6 7 (aCons (eOp2 vIx (eOpN vLst (aCons (eC (.str "took")) (aCons (eC (.str "none")) aNil))) (eCall 2 f__law_draw (aCons (eVar 0) (aCons (eC (.int 2)) aNil)))) (aCons (eOp2 vIx (eOpN vLst (aCons (eC (.str "eldest")) (aCons (eC (.str "known")) (aCons (eC (.str "ran")) aNil)))) (eCall 2 f__law_draw (aCons (eVar 0) (aCons (eC (.int 3)) aNil)))) aNil)))
    (sRet (eOpN vTup (aCons (eVar 1) (aCons (eVar 2) (aCons (eVar 3) (aCons (eVar 4) (aCons (eVar 5) (aCons (eVar 6) (aCons (eVar 7) aNil))))))))))))))
def f__law_rule : MF := mFn 8 m__law_rule
def q1_law : ME :=
    (eComp [11] (iSeq (eVar 3)) (.nm 11) tTrue (eOpN vTup (aCons (eVar 11) (aCons (eC (.int 0)) aNil))))
def b1_law : MS :=
    (sTidy [8] (sSet 6 (eOp2 vAdd (eOp2 vMul (eVar 6) (eOpN vLen (aCons (eOp1 vPlain (eVar 7)) aNil))) (eMethO vTIndex (eVar 7) (aCons (eVar 8) aNil)))))
def l1_law : MS :=
    (sFor (iZip (eVar 2) (eVar 5)) (gTup 2 (gCons (gName 7) (gCons (gName 8) gNil))) b1_law)
def b2_law : MS :=
    (sTidy [4, 5, 6, 8] (sSeq (sPar2 5 6 (aCons (eCall 1 f__law_rule (aCons (eVar 1) aNil)) (aCons (eC (.int 0)) aNil)))
    (sSeq l1_law
    (sIf (tOrM (tsB (eOp2 vNe (eOp2 vIx (eVar 3) (eVar 6)) (eVar 5))) (tsB (eOp2 vNe (eCall 1 f_need_rule (aCons (eVar 5) aNil)) (eVar 5)))) (sRet (eC (.bl false))) sPass))))
def l2_law : MS :=
    (sFor (iRange1 (eC (.int 20))) (gName 4) b2_law)
def q2_law : ME :=
    (eComp [7] (iSeq (eVar 2)) (.nm 7) tTrue (eOp2 vIx (eOp1 vPlain (eVar 7)) (eOp1 vNeg (eC (.int 1)))))
def q3_law : ME :=
    (eComp [7] (iSeq (eVar 2)) (.nm 7) tTrue (eOp2 vIx (eOp1 vPlain (eVar 7)) (eC (.int 0))))
def m_law : MS :=
    (sSeq (sSet 1 (eCall 1 f__law_begin (aCons (eVar 0) aNil)))
    (sSeq (sSet 2 (eOpN vTup (aCons (eOpN vTpO (aCons (eC (.str "any")) (aCons (eC (.str "guess")) (aCons (eC (.str "known")) aNil)))) (aCons (eOpN vTpO (aCons (eC (.str "cells")) (aCons (eC (.str "wait")) (aCons (eC (.str "store")) aNil)))) (aCons (eOpN vTpO (aCons (eC (.str "cells")) (aCons (eC (.str "word")) (aCons (eC (.str "sign")) (aCons (eC (.str "all")) (aCons (eC (.str "none")) aNil)))))) aNil)))))
    (sSeq (sSet 2 (eOp2 vAdd (eVar 2) (eOpN vTup (aCons (eOpN vTpO (aCons (eC (.str "never")) (aCons (eC (.str "each")) (aCons (eC (.str "some")) aNil)))) (aCons (eOpN vTpO (aCons (eC (.str "one")) (aCons (eC (.str "hanging")) (aCons (eC (.str "behind")) (aCons (eC (.str "all")) aNil))))) (aCons (eOpN vTpO (aCons (eC (.str "took")) (aCons (eC (.str "none")) aNil))) aNil))))))
    (sSeq (sSet 2 (eOp2 vAdd (eVar 2) (eOpN vTup (aCons (eOpN vTpO (aCons (eC (.str "eldest")) (aCons (eC (.str "known")) (aCons (eC (.str "ran")) aNil)))) aNil))))
    (sSeq (sSet 3 (eCall 0 f_all_rules aNil))
    (sSeq (sIf (tOrM (tsB (eOp2 vNe (eC c_CHOICES) (eOp1 vPlain (eVar 2)))) (tOrM (tsB (eOp2 vNe (eOpN vLen (aCons (eVar 3) aNil)) (eC (.int 3240)))) (tOrM (tsB (eOp2 vNe (eOpN vLenT (aCons (eOpN vDict (aCons q1_law aNil)) aNil)) (eC (.int 3240)))) (tsB (eOp2 vNe (eCall 0 f_all_rules aNil) (eVar 3)))))) (sRet (eC (.bl false))) sPass)
    (sSeq l2_law
    (sSeq (sPar2 9 10 (aCons (eOpN vTuple (aCons q3_law aNil)) (aCons (eOpN vTuple (aCons q2_law aNil)) aNil)))
    (sRet (eOp2 vEq (eOpN vLst (aCons (eOp2 vIx (eVar 3) (eC (.int 0))) (aCons (eOp2 vIx (eVar 3) (eC (.int 1))) (aCons (eOp2 vIx (eVar 3) (eOp1 vNeg (eC (.int 1)))) aNil)))) (eOpN vLst (aCons (eVar 9) (aCons (eOp2 vAdd (eSl (eVar 9) oNone (oSome (eC (.int 6)))) (eOpN vTup (aCons (eC (.str "known")) aNil))) (aCons (eVar 10) aNil))))))))))))))
def f_law : MF := mFn 12 m_law
end K03

set_option Elab.async false
set_option linter.all false
set_option maxRecDepth 100000
set_option maxHeartbeats 4000000
namespace K03
open PySem PySem.Spec PyProof.Rows L2 DS
def topS (i : Nat) : Stmt := PySem.Challenge.pw_earlyreads_k03_rules_by_hand.main.body.getD i (.Pass ⟨0, 0, 0, 0⟩)
abbrev st_need_rule : Stmt := topS 28
abbrev N_need_rule : List Str := ["thing", "number", "word"]
abbrev P_need_rule : List Str := ["thing"]
abbrev st_all_rules : Stmt := topS 29
abbrev N_all_rules : List Str := ["found", "some", "rule", "word"]
abbrev P_all_rules : List Str := []
abbrev st__law_mixed : Stmt := topS 31
abbrev N__law_mixed : List Str := ["_law_cell", "_law_k"]
abbrev P__law_mixed : List Str := ["_law_cell", "_law_k"]
abbrev st__law_begin : Stmt := topS 32
abbrev N__law_begin : List Str := ["_law_script", "_law_cells", "_law_cell"]
abbrev P__law_begin : List Str := ["_law_script"]
abbrev st__law_draw : Stmt := topS 33
abbrev N__law_draw : List Str := ["_law_state", "_law_many", "_law_at", "_law_place", "_law_left", "_law_number"]
abbrev P__law_draw : List Str := ["_law_state", "_law_many"]
abbrev st__law_rule : Stmt := topS 35
abbrev N__law_rule : List Str := ["_law_state", "_law_run", "_law_hand", "_law_look", "_law_spare", "_law_again", "_law_back", "_law_go"]
abbrev P__law_rule : List Str := ["_law_state"]
abbrev st_law : Stmt := topS 37
abbrev N_law : List Str := ["_law_script", "_law_state", "_law_due", "_law_rules", "_law_k", "_law_rule_here", "_law_at", "_law_some", "_law_word", "_law_first", "_law_last", "_law_one"]
abbrev P_law : List Str := ["_law_script"]
def hloose0 : List Str := ["EarlyError", "BadRule", "RUN_ANY", "RUN_GUESS", "RUN_KNOWN", "HAND_CELLS", "HAND_WAIT", "HAND_STORE", "LOOK_CELLS", "LOOK_WORD", "LOOK_SIGN", "LOOK_ALL", "LOOK_NONE", "SPARE_NEVER", "SPARE_EACH", "SPARE_SOME", "AGAIN_ONE", "AGAIN_HANGING", "AGAIN_BEHIND", "AGAIN_ALL", "BACK_TOOK", "BACK_NONE", "GO_ELDEST", "GO_KNOWN", "GO_RAN", "CHOICES", "need_rule", "all_rules", "_law_mixed", "_law_begin"]
def hloose1 : List Str := ["_law_draw", "_law_of", "_law_rule", "_law_program"]
def hloose : List Str := hloose0 ++ hloose1
def clsN : Nat → Str

  | _ => ""
def htf : List He.Defn := []
abbrev clK (K : PySem.W.Frag) (w : World) : CW := ⟨fun n => He.ga K (clsN n), w, tfT K htf⟩
def hfn : List He.DefD := [defD "need_rule" st_need_rule, defD "all_rules" st_all_rules, defD "_law_mixed" st__law_mixed, defD "_law_begin" st__law_begin, defD "_law_draw" st__law_draw, defD "_law_rule" st__law_rule, defD "law" st_law]
def hfa : List He.Fa := [.glo "need_rule", .glo "all_rules", .glo "_law_mixed", .glo "_law_begin", .glo "_law_draw", .glo "_law_rule", .glo "law", .free "dict", .free "enumerate", .free "int", .free "isinstance", .free "len", .free "list", .free "range", .free "str", .free "tuple", .free "zip"]
def hts : List He.Tab := []
def hex (K : PySem.W.Frag) : Bool := [gcB K "CHOICES" c_CHOICES, tfB K htf].all id
abbrev HR_ : PySem.W.OpenRow := PySem.W.OpenLaw.row PySem.Challenge.rw_earlyreads_k03_rules_by_hand
abbrev hk : PySem.W.Hook := hookY 4 hfa hfn hts htf hex
def hob (s : PySem.W.SharedT) : He.AlX := obsY 4 hfa hfn hts htf hex (HandSHeadRun.getT s)
theorem hob_eq (s : PySem.W.SharedT) : hob s = hk.obs s.abs := obsY_eq (HandSHeadRun.getT_eq s)
theorem map_three {α β γ δ ε : Type} {E : Option α} {f : α → β × γ} {p : α → δ × ε} {a : β} {b : γ} {c : δ} {d : ε} (h1 : E.map f = some (a, b)) (h2 : E.map (fun s => (p s).1) = some c) (h3 : E.map (fun s => (p s).2) = some d) : E.map (fun s => ((f s).1, (f s).2, p s)) = some (a, b, (c, d)) := by
  cases E with
  | none => cases h1
  | some s =>
    have e1 := Option.some.inj h1
    have e2 := Option.some.inj h2
    have e3 := Option.some.inj h3
    show some ((f s).1, (f s).2, p s) = _
    rw [e1, ← e2, ← e3]
open PySem PySem.W PySem.Calls PyProof.Rows HandSHeadRun in
theorem hrunFa (w : World) (os : OsState) : (endF (stepQ (denQ tabQ) HR_.prog (w.withFollow "special-get-raises" false)) 6000 HR_.prog (w.withFollow "special-get-raises" false) os).map (fun s => (looksF HR_.prog (boot_heap (w.withFollow "special-get-raises" false).params) s.abs, HandSHeadRun.seenQ (PySem.W.view HR_.prog [37]) hloose (importedModules HR_.prog.main.body) (fun s => PySem.W.xlAt (PySem.W.view HR_.prog [37]) [] s && recOk HR_.toRowW.records s) s.abs)) = some (true, PySem.W.openGood (PySem.W.view HR_.prog [37]) hloose) := by kernel_rfl
open PySem PySem.W PySem.Calls PyProof.Rows HandSHeadRun in
theorem hrunFb (w : World) (os : OsState) : (endF (stepQ (denQ tabQ) HR_.prog (w.withFollow "special-get-raises" false)) 6000 HR_.prog (w.withFollow "special-get-raises" false) os).map (fun s => (hob s).1) = some (He.valT hfn hts (w.withFollow "special-get-raises" false)) := by kernel_rfl
open PySem PySem.W PySem.Calls PyProof.Rows HandSHeadRun in
theorem hrunFc (w : World) (os : OsState) : (endF (stepQ (denQ tabQ) HR_.prog (w.withFollow "special-get-raises" false)) 6000 HR_.prog (w.withFollow "special-get-raises" false) os).map (fun s => (hob s).2) = some true := by kernel_rfl
theorem hrunF (w : World) : HandSHeadRun.RunEq HR_ (PySem.W.view HR_.prog [37]) hk hob 6000 hloose (w.withFollow "special-get-raises" false) := fun os => map_three (hrunFa w os) (hrunFb w os) (hrunFc w os)
open PySem PySem.W PySem.Calls PyProof.Rows HandSHeadRun in
theorem hrunTa (w : World) (os : OsState) : (endF (stepQ (denQ tabQ) HR_.prog (w.withFollow "special-get-raises" true)) 6000 HR_.prog (w.withFollow "special-get-raises" true) os).map (fun s => (looksF HR_.prog (boot_heap (w.withFollow "special-get-raises" true).params) s.abs, HandSHeadRun.seenQ (PySem.W.view HR_.prog [37]) hloose (importedModules HR_.prog.main.body) (fun s => PySem.W.xlAt (PySem.W.view HR_.prog [37]) [] s && recOk HR_.toRowW.records s) s.abs)) = some (true, PySem.W.openGood (PySem.W.view HR_.prog [37]) hloose) := by kernel_rfl
open PySem PySem.W PySem.Calls PyProof.Rows HandSHeadRun in
theorem hrunTb (w : World) (os : OsState) : (endF (stepQ (denQ tabQ) HR_.prog (w.withFollow "special-get-raises" true)) 6000 HR_.prog (w.withFollow "special-get-raises" true) os).map (fun s => (hob s).1) = some (He.valT hfn hts (w.withFollow "special-get-raises" true)) := by kernel_rfl
open PySem PySem.W PySem.Calls PyProof.Rows HandSHeadRun in
theorem hrunTc (w : World) (os : OsState) : (endF (stepQ (denQ tabQ) HR_.prog (w.withFollow "special-get-raises" true)) 6000 HR_.prog (w.withFollow "special-get-raises" true) os).map (fun s => (hob s).2) = some true := by kernel_rfl
theorem hrunT (w : World) : HandSHeadRun.RunEq HR_ (PySem.W.view HR_.prog [37]) hk hob 6000 hloose (w.withFollow "special-get-raises" true) := fun os => map_three (hrunTa w os) (hrunTb w os) (hrunTc w os)
theorem hrun (w : World) : HandSHeadRun.RunEq HR_ (PySem.W.view HR_.prog [37]) hk hob 6000 hloose w := PySem.W.byRow2 "special-get-raises" hrunF hrunT w
end K03

set_option Elab.async false
set_option linter.all false
set_option maxRecDepth 100000
set_option maxHeartbeats 4000000
/-! DSQ: programs. -/
namespace DS
open PySem
inductive Sz | low | high | both
def Sz.s : Sz → Str | .low => "low" | .high => "high" | .both => "both"
def Sz.cells : Sz → List Int | .low => [0] | .high => [1] | .both => [0, 1]
inductive Spot | told (w : Int) | hung (k : Nat) (a b : Int)
def Spot.d : Spot → D
  | .told w => .tup [.str "told", .int w]
  | .hung k a b => .tup [.str "hung", .int k, .int a, .int b]
structure Acc where
  rd : Bool
  sz : Sz
  sp : Spot
def kdD (b : Bool) : D := if b then .str "read" else .str "write"
def Acc.d (a : Acc) : D := .tup [kdD a.rd, .str a.sz.s, a.sp.d]
def Spot.word : Spot → Int | .told w => w | .hung _ x _ => x
def Acc.word (a : Acc) : Int := a.sp.word
abbrev Pr := List Acc
def pD (p : Pr) : D := .tup (p.map Acc.d)
def wOk (w : Int) : Prop := 0 ≤ w ∧ w ≤ 99
def Spot.ok (p : Pr) (i : Nat) : Spot → Prop
  | .told w => wOk w
  | .hung k a b => k < i ∧ (∃ q, p[k]? = some q ∧ q.rd = true) ∧ wOk a ∧ wOk b
structure Good (p : Pr) : Prop where
  pos : 0 < p.length
  few : p.length ≤ 12
  ok : ∀ (i : Nat) (a : Acc), p[i]? = some a → a.sp.ok p i
theorem kd_low {n : Nat} (b : Bool) : dLow n (kdD b) = true := by cases b <;> rfl
theorem spot_low {n : Nat} (a : Spot) : dLow n a.d = true := by cases a <;> rfl
theorem acc_low {n : Nat} (a : Acc) : dLow n a.d = true := by
  show (dLow n (kdD a.rd) && (true && (dLow n a.sp.d && true))) = true
  rw [kd_low, spot_low]; rfl
theorem prog_low {n : Nat} (p : Pr) : dLow n (pD p) = true := by
  show dLows n (p.map Acc.d) = true
  rw [dLows_of, List.all_eq_true]
  intro d hd
  obtain ⟨a, _, rfl⟩ := List.mem_map.mp hd
  exact acc_low a
theorem ix_prog {p : Pr} {i : Nat} {a : Acc} {h : Hs} (hi : p[i]? = some a) : vIx (pD p) (.int (i : Int)) h = some (a.d, h) := ix_tup (by rw [List.getElem?_map, hi]; rfl)
theorem ix_acc0 {a : Acc} {h : Hs} : vIx a.d (.int 0) h = some (kdD a.rd, h) := rfl
theorem ix_acc1 {a : Acc} {h : Hs} : vIx a.d (.int 1) h = some (.str a.sz.s, h) := rfl
theorem ix_acc2 {a : Acc} {h : Hs} : vIx a.d (.int 2) h = some (a.sp.d, h) := rfl
theorem len_prog {p : Pr} {h : Hs} : vLen [pD p] h = some (.int p.length, h) := by
  show some (D.int ((p.map Acc.d).length : Nat), h) = _
  rw [List.length_map]
theorem vEq_str {x y : Str} {h : Hs} : vEq (.str x) (.str y) h = some (.bl (x == y), h) := rfl
theorem vNe_str {x y : Str} {h : Hs} : vNe (.str x) (.str y) h = some (.bl (!(x == y)), h) := rfl
theorem vEq_int {x y : Int} {h : Hs} : vEq (.int x) (.int y) h = some (.bl (x == y), h) := rfl
theorem vNe_int {x y : Int} {h : Hs} : vNe (.int x) (.int y) h = some (.bl (!(x == y)), h) := rfl
def mk (p : Pr) (i : Nat) (c : Int) (o : Nat) : Bool := match p[o]?, p[i]? with
  | some q, some a => !q.rd && (q.word == a.word && q.sz.cells.contains c)
  | _, _ => false
def writesOf (p : Pr) (i : Nat) (c : Int) : List Int := ((List.range i).filter (mk p i c)).map fun (o : Nat) => (o : Int)
def young (ns : List Int) (w : Int) : Int := if ns.isEmpty then -1 - w else maxI ns
def worth (p : Pr) (i : Nat) (a : Acc) : List Int := a.sz.cells.map fun c => young (writesOf p i c) a.word
def rightD (p : Pr) (q : Acc × Nat) : D := if q.1.rd then .tup ((worth p q.2 q.1).map .int) else .non
def wordsD (p : Pr) : List D := p.map fun a => .int a.word
theorem words_low {n : Nat} (p : Pr) : oLow n (.lst (wordsD p)) = true := by
  show dLows n (wordsD p) = true
  rw [dLows_of, List.all_eq_true]
  intro d hd
  obtain ⟨a, _, rfl⟩ := List.mem_map.mp hd
  rfl
theorem words_at {p : Pr} {i : Nat} {a : Acc} (hi : p[i]? = some a) : (wordsD p)[i]? = some (.int a.word) := by
  unfold wordsD; rw [List.getElem?_map, hi]; rfl
theorem right_low {n : Nat} (p : Pr) (q : Acc × Nat) : dLow n (rightD p q) = true := by
  unfold rightD
  split
  · exact ints_low
  · rfl
theorem max_range (t : Nat → Bool) (w : Int) : ∀ n : Nat, (if (((List.range n).filter t).map fun (o : Nat) => (o : Int)).isEmpty then w else maxI (((List.range n).filter t).map fun (o : Nat) => (o : Int))) = (List.range n).foldl (fun m o => if t o = true then (o : Int) else m) w
  | 0 => rfl
  | n + 1 => by
    rw [List.range_succ, List.foldl_append, ← max_range t w n, List.filter_append, List.map_append]
    show _ = if t n = true then (n : Int) else _
    cases q : t n with
    | false =>
      rw [List.filter_cons_of_neg (by rw [q]; decide)]
      simp only [List.filter_nil, List.map_nil, List.append_nil]
      rfl
    | true =>
      rw [List.filter_cons_of_pos q, if_pos rfl]
      simp only [List.filter_nil, List.map_cons, List.map_nil]
      rw [if_neg (by simp)]
      have hb : ∀ y ∈ ((List.range n).filter t).map (fun (o : Nat) => (o : Int)), y < n := by
        intro y hy
        obtain ⟨o, ho, rfl⟩ := List.mem_map.mp hy
        have := List.mem_range.mp (List.mem_filter.mp ho).1
        omega
      generalize ((List.range n).filter t).map (fun (o : Nat) => (o : Int)) = xs at hb
      cases xs with
      | nil => rfl
      | cons x r =>
        show (r ++ [(n : Int)]).foldl max x = n
        rw [List.foldl_append]
        show max (r.foldl max x) n = n
        obtain ⟨h1, h2, h3⟩ := foldl_max r x
        have : r.foldl max x < n := by
          rcases h1 with h1 | h1
          · rw [h1]; exact hb x List.mem_cons_self
          · exact hb _ (List.mem_cons_of_mem _ h1)
        omega
theorem young_fold (p : Pr) (i : Nat) (c w : Int) : young (writesOf p i c) w = (List.range i).foldl (fun m o => if mk p i c o = true then (o : Int) else m) (-1 - w) := by
  rw [← max_range]; rfl
/-- whether age hangs on elder -/
def hangs (p : Pr) (elder age : Nat) : Bool := match p[age]? with
  | some ⟨_, _, .hung k _ _⟩ => if k < age then (k == elder || hangs p elder k) else false
  | _ => false
termination_by age
theorem hangs_lt (p : Pr) (elder : Nat) : ∀ (n age : Nat), age < n → hangs p elder age = true → elder < age
  | 0, _, h, _ => by omega
  | n + 1, age, h, e => by
    unfold hangs at e
    split at e
    · rename_i k _ _ _
      split at e
      · rename_i hk
        rw [Bool.or_eq_true] at e
        rcases e with e | e
        · have := beq_iff_eq.mp e; omega
        · have := hangs_lt p elder n k (by omega) e; omega
      · cases e
    · cases e
def hangL (p : Pr) (n k : Nat) : List Int := ((List.range k).filter (hangs p n)).map fun (o : Nat) => (o : Int)
theorem hangL_in {p : Pr} {n k o : Nat} (ho : o < k) : (hangL p n k).contains (o : Int) = hangs p n o := by
  rw [Bool.eq_iff_iff, List.contains_iff_mem]
  unfold hangL
  constructor
  · intro hm
    obtain ⟨x, hx, e⟩ := List.mem_map.mp hm
    have : x = o := by omega
    subst this
    exact (List.mem_filter.mp hx).2
  · intro hm
    exact List.mem_map.mpr ⟨o, List.mem_filter.mpr ⟨List.mem_range.mpr ho, hm⟩, rfl⟩
theorem hangL_nil {p : Pr} {n : Nat} : hangL p n (n + 1) = [] := by
  unfold hangL
  rw [List.map_eq_nil_iff, List.filter_eq_nil_iff]
  intro o ho hh
  have := hangs_lt p n (o + 1) o (by omega) hh
  have := List.mem_range.mp ho
  omega
theorem hangL_succ {p : Pr} {n k : Nat} : hangL p n (k + 1) = hangL p n k ++ (if hangs p n k = true then [(k : Int)] else []) := by
  unfold hangL
  rw [List.range_succ, List.filter_append, List.map_append]
  cases q : hangs p n k with
  | true => rw [List.filter_cons_of_pos q, if_pos rfl]; rfl
  | false => rw [List.filter_cons_of_neg (by rw [q]; decide), if_neg (by decide)]; rfl
theorem hangL_len {p : Pr} {n k : Nat} : (hangL p n k).length ≤ k := by
  unfold hangL
  rw [List.length_map]
  have := List.length_filter_le (hangs p n) (List.range k)
  rw [List.length_range] at this
  exact this
theorem in_intsR {c : Int} {ns : List Int} {n : Nat} {h : Hs} (hn : h[n]? = some (.lst (ns.map .int))) : vIn (.int c) (.ref n) h = some (.bl (ns.contains c), h) := by
  have e := in_ints (c := c) (ns := ns) (h := h)
  unfold vIn inH at e ⊢
  have s1 : seqOf (.ref n) h = some (ns.map .int) := by simp only [seqOf, hn]
  rw [s1]
  exact e
theorem hangs_told {p : Pr} {n o : Nat} {r : Bool} {z : Sz} {w : Int} (ho : p[o]? = some ⟨r, z, .told w⟩) : hangs p n o = false := by
  unfold hangs; rw [ho]
theorem hangs_hung {p : Pr} {n o k : Nat} {r : Bool} {z : Sz} {x y : Int} (ho : p[o]? = some ⟨r, z, .hung k x y⟩) (hk : k < o) : hangs p n o = (k == n || hangs p n k) := by
  conv => lhs; unfold hangs
  rw [ho]
  simp only [hk, if_true]
theorem beq_cast {a b : Nat} : ((a : Int) == (b : Int)) = (a == b) := by
  by_cases q : a = b
  · rw [q, BEq.rfl, BEq.rfl]
  · rw [beq_eq_false_iff_ne.mpr q, beq_eq_false_iff_ne.mpr (by omega)]
theorem pick2 {v : Int} (h0 : 0 ≤ v) (h1 : v < 2) : ∃ b, [D.str "write", D.str "read"][v.toNat]? = some (kdD b) := by
  have : v = 0 ∨ v = 1 := by omega
  rcases this with rfl | rfl
  · exact ⟨false, rfl⟩
  · exact ⟨true, rfl⟩
theorem pick3 {v : Int} (h0 : 0 ≤ v) (h1 : v < 3) : ∃ z : Sz, [D.str "low", D.str "high", D.str "both"][v.toNat]? = some (.str z.s) := by
  have : v = 0 ∨ v = 1 ∨ v = 2 := by omega
  rcases this with rfl | rfl | rfl
  · exact ⟨.low, rfl⟩
  · exact ⟨.high, rfl⟩
  · exact ⟨.both, rfl⟩
theorem pick6 {v : Int} (h0 : 0 ≤ v) (h1 : v < 6) : ∃ j : Int, [D.int 0, D.int 0, D.int 0, D.int 1, D.int 2, D.int 3][v.toNat]? = some (.int j) ∧ 0 ≤ j ∧ j < 4 := by
  have : v = 0 ∨ v = 1 ∨ v = 2 ∨ v = 3 ∨ v = 4 ∨ v = 5 := by omega
  rcases this with rfl | rfl | rfl | rfl | rfl | rfl
  · exact ⟨0, rfl, by decide, by decide⟩
  · exact ⟨0, rfl, by decide, by decide⟩
  · exact ⟨0, rfl, by decide, by decide⟩
  · exact ⟨1, rfl, by decide, by decide⟩
  · exact ⟨2, rfl, by decide, by decide⟩
  · exact ⟨3, rfl, by decide, by decide⟩
theorem pickw {v : Int} (h0 : 0 ≤ v) (h1 : v < 4) : ∃ w : Int, [D.int 0, D.int 1, D.int 4, D.int 2][v.toNat]? = some (.int w) ∧ wOk w := by
  have : v = 0 ∨ v = 1 ∨ v = 2 ∨ v = 3 := by omega
  rcases this with rfl | rfl | rfl | rfl
  · exact ⟨0, rfl, by decide, by decide⟩
  · exact ⟨1, rfl, by decide, by decide⟩
  · exact ⟨4, rfl, by decide, by decide⟩
  · exact ⟨2, rfl, by decide, by decide⟩
def rdAt (p : Pr) (k : Nat) : Bool := match p[k]? with | some a => a.rd | none => false
def readsOf (p : Pr) : List Nat := (List.range p.length).filter (rdAt p)
theorem readsOf_len (p : Pr) : (readsOf p).length ≤ p.length := by
  have := List.length_filter_le (rdAt p) (List.range p.length)
  rw [List.length_range] at this
  exact this
theorem reads_mem {p : Pr} {k : Nat} (h : k ∈ readsOf p) : k < p.length ∧ ∃ q, p[k]? = some q ∧ q.rd = true := by
  obtain ⟨h1, h2⟩ := List.mem_filter.mp h
  have hk := List.mem_range.mp h1
  refine ⟨hk, p[k], List.getElem?_eq_getElem hk, ?_⟩
  unfold rdAt at h2
  rw [List.getElem?_eq_getElem hk] at h2
  exact h2
/-- programs on the way -/
def GoodP (p : Pr) : Prop := ∀ (i : Nat) (a : Acc), p[i]? = some a → a.sp.ok p i
theorem Spot.ok_app {p : Pr} {i : Nat} {s : Spot} {q : Pr} (h : s.ok p i) : s.ok (p ++ q) i := by
  cases s with
  | told w => exact h
  | hung k a b =>
    obtain ⟨h1, ⟨x, h2, h3⟩, h4⟩ := h
    exact ⟨h1, ⟨x, by rw [List.getElem?_append_left (List.getElem?_eq_some_iff.mp h2).1]; exact h2, h3⟩, h4⟩
theorem GoodP.snoc {p : Pr} {a : Acc} (g : GoodP p) (ha : a.sp.ok p p.length) : GoodP (p ++ [a]) := by
  intro i b hb
  by_cases hi : i < p.length
  · rw [List.getElem?_append_left hi] at hb
    exact Spot.ok_app (g i b hb)
  · rw [List.getElem?_append_right (by omega)] at hb
    have : i - p.length = 0 := by
      have := (List.getElem?_eq_some_iff.mp hb).1
      simp at this; omega
    rw [this] at hb
    have e : a = b := by simpa using hb
    have e2 : i = p.length := by omega
    subst e e2
    exact Spot.ok_app ha
theorem hp_cl {s : S} {r : Hs} (hr : r.all (oLow 0) = true) : Cl (s.hp ++ r) := s.cl0.app0 hr
theorem progL_low {p : Pr} {n : Nat} : oLow n (.lst (p.map Acc.d)) = true := prog_low p
variable {h : Hs}
theorem enumD_map {α : Type} {f : α → D} : ∀ (xs : List α) (i : Nat), enumD (xs.map f) i = (xs.zipIdx i).map fun (q : α × Nat) => .tup [.int q.2, f q.1]
  | [], _ => rfl
  | x :: r, i => by
    rw [List.map_cons, enumD, List.zipIdx_cons, List.map_cons, enumD_map r (i + 1)]
theorem rOk_nat {i : Nat} (hi : i ≤ 1000) : rOk (i : Int) = true := Nat.ble_eq_true_of_le (show (i : Int).natAbs ≤ _ by omega)
theorem iter_rng {i : Nat} {e : ME} {env : En} {h1 : Hs} (he : e env h = .ok (.int (i : Int)) h1) (hi : i ≤ 1000) : iRange1 e env h = .ok (.rng 0 i) h1 := by
  unfold iRange1
  rw [he]
  simp only [bind_ok]
  rw [if_pos (rOk_nat hi)]
  rfl
theorem isi_str {x : Str} : isiD .str (.str x) h = some true := rfl
theorem iter_tup {xs : List D} {e : ME} {env : En} {h1 : Hs} (he : e env h = .ok (.tup xs) h1) : iSeq e env h = .ok (.one (.st xs)) h1 := by
  unfold iSeq
  rw [he]
  rfl
theorem app3 {a b c d : O} : h ++ [a, b, c, d] = (h ++ [a, b, c]) ++ [d] := by rw [List.append_assoc]; rfl
theorem app2 {a b c : O} : h ++ [a, b, c] = (h ++ [a, b]) ++ [c] := by rw [List.append_assoc]; rfl
theorem app1 {a b : O} : h ++ [a, b] = (h ++ [a]) ++ [b] := by rw [List.append_assoc]; rfl
theorem kd_str (b : Bool) : ∃ x, kdD b = .str x := by cases b <;> exact ⟨_, rfl⟩
theorem e_told_told : (("told" : Str) == ("told" : Str)) = true := by decide +kernel
theorem e_hung_told : (("hung" : Str) == ("told" : Str)) = false := by decide +kernel
theorem e_hung_hung : (("hung" : Str) == ("hung" : Str)) = true := by decide +kernel
theorem spot_isi {T : Ty} {h : Hs} (s : Spot) : isiD T s.d h = some (match T with | .tup => true | _ => false) := by cases s <;> rfl
theorem spot_nil {h : Hs} (s : Spot) : vEq s.d (.tup []) h = some (.bl false, h) := by cases s <;> kernel_rfl
theorem kd_told (s : Spot) : vIx s.d (.int 0) h = some (.str (match s with | .told _ => "told" | .hung _ _ _ => "hung"), h) := by cases s <;> rfl
theorem e_told_hung : (("told" : Str) == ("hung" : Str)) = false := by decide +kernel
theorem kd_write' {h : Hs} (b : Bool) : vEq (kdD b) (.str "write") h = some (.bl (!b), h) := by cases b <;> kernel_rfl
theorem kd_read' {h : Hs} (b : Bool) : vEq (kdD b) (.str "read") h = some (.bl b, h) := by cases b <;> kernel_rfl
theorem prog_ok30 (p : Pr) : okN 30 (pD p) = true := by
  show (p.map Acc.d).all (okN 29) = true
  rw [List.all_eq_true]
  intro d hd
  obtain ⟨⟨r, z, sp⟩, _, rfl⟩ := List.mem_map.mp hd
  cases r <;> cases z <;> cases sp <;> kernel_rfl
theorem words_ok30 (p : Pr) : okN 30 (.tup (wordsD p)) = true := by
  show (wordsD p).all (okN 29) = true
  rw [List.all_eq_true]
  intro d hd
  obtain ⟨a, _, rfl⟩ := List.mem_map.mp hd
  rfl
theorem rights_ok30 (p : Pr) : okN 30 (.tup (p.zipIdx.map (rightD p))) = true := by
  show (p.zipIdx.map (rightD p)).all (okN 29) = true
  rw [List.all_eq_true]
  intro d hd
  obtain ⟨a, _, rfl⟩ := List.mem_map.mp hd
  unfold rightD
  split
  · exact okN_ints
  · rfl
theorem rights_low {n : Nat} (p : Pr) : dLows n (p.zipIdx.map (rightD p)) = true := by
  rw [dLows_of, List.all_eq_true]
  intro d hd
  obtain ⟨a, _, rfl⟩ := List.mem_map.mp hd
  exact right_low p a
end DS

set_option Elab.async false
set_option linter.all false
set_option maxRecDepth 100000
set_option maxHeartbeats 4000000
/-! DSR: rules, standings, the machine as plain functions. -/
namespace DS
open PySem
inductive WRun | any | guess | known deriving DecidableEq
inductive WHand | cells | wait | store deriving DecidableEq
inductive WLook | cells | word | sign | all | none deriving DecidableEq
inductive WSpare | never | each | some deriving DecidableEq
inductive WAgain | one | hanging | behind | all deriving DecidableEq
inductive WBack | took | none deriving DecidableEq
inductive WGo | eldest | known | ran deriving DecidableEq
def WRun.s : WRun → Str | .any => "any" | .guess => "guess" | .known => "known"
def WHand.s : WHand → Str | .cells => "cells" | .wait => "wait" | .store => "store"
def WLook.s : WLook → Str | .cells => "cells" | .word => "word" | .sign => "sign" | .all => "all" | .none => "none"
def WSpare.s : WSpare → Str | .never => "never" | .each => "each" | .some => "some"
def WAgain.s : WAgain → Str | .one => "one" | .hanging => "hanging" | .behind => "behind" | .all => "all"
def WBack.s : WBack → Str | .took => "took" | .none => "none"
def WGo.s : WGo → Str | .eldest => "eldest" | .known => "known" | .ran => "ran"
structure Rule where
  run : WRun
  hand : WHand
  look : WLook
  spare : WSpare
  again : WAgain
  back : WBack
  go : WGo
def Rule.d (r : Rule) : D := .tup [.str r.run.s, .str r.hand.s, .str r.look.s, .str r.spare.s, .str r.again.s, .str r.back.s, .str r.go.s]
/-- how an access stands -/
structure Q where
  here : Option Int
  has : Option (List Int)
  gone : Bool
  cl : Bool
def oI : Option Int → D | none => .non | some i => .int i
def oT : Option (List Int) → D | none => .non | some w => .tup (w.map .int)
def Q.l (q : Q) : List D := [oI q.here, oT q.has, .bl q.gone, .bl q.cl]
def Q.d (q : Q) : D := .tup q.l
def Q.fresh : Q := ⟨none, none, false, false⟩
abbrev Sd := List Q
def stD (st : Sd) : D := .tup (st.map Q.d)
inductive EvW | go | place | run deriving DecidableEq
def EvW.s : EvW → Str | .go => "go" | .place => "place" | .run => "run"
structure Ev where
  w : EvW
  n : Nat
def Ev.d (e : Ev) : D := .tup [.str e.w.s, .int e.n]
def Acc0 : Acc := ⟨true, .low, .told 0⟩
def aa (p : Pr) (i : Nat) : Acc := p.getD i Acc0
def qa (st : Sd) (i : Nat) : Q := st.getD i Q.fresh
theorem aa_at {p : Pr} {i : Nat} (h : i < p.length) : p[i]? = some (aa p i) := by
  unfold aa; rw [List.getD_eq_getElem?_getD, List.getElem?_eq_getElem h]; rfl
theorem qa_at {st : Sd} {i : Nat} (h : i < st.length) : st[i]? = some (qa st i) := by
  unfold qa; rw [List.getD_eq_getElem?_getD, List.getElem?_eq_getElem h]; rfl
theorem aa_of {p : Pr} {i : Nat} {a : Acc} (h : p[i]? = some a) : aa p i = a := by
  unfold aa; rw [List.getD_eq_getElem?_getD, h]; rfl
theorem qa_of {st : Sd} {i : Nat} {q : Q} (h : st[i]? = some q) : qa st i = q := by
  unfold qa; rw [List.getD_eq_getElem?_getD, h]; rfl
/-- the last number below n with t -/
def lastN (t : Nat → Bool) : Nat → Option Nat
  | 0 => none
  | n + 1 => if t n = true then some n else lastN t n
theorem lastN_lt {t : Nat → Bool} : ∀ {n m : Nat}, lastN t n = some m → m < n ∧ t m = true
  | 0, _, h => by cases h
  | n + 1, m, h => by
    unfold lastN at h
    split at h
    · cases h; exact ⟨Nat.lt_succ_self _, by assumption⟩
    · obtain ⟨h1, h2⟩ := lastN_lt h; exact ⟨by omega, h2⟩
theorem lastN_none {t : Nat → Bool} : ∀ {n : Nat}, lastN t n = none → ∀ m, m < n → t m = false
  | 0, _, m, hm => by omega
  | n + 1, h, m, hm => by
    unfold lastN at h
    split at h
    · cases h
    · rename_i hn
      by_cases q : m = n
      · subst q; exact Bool.eq_false_iff.mpr hn
      · exact lastN_none h m (by omega)
theorem lastN_congr {t u : Nat → Bool} : ∀ {n : Nat}, (∀ m, m < n → t m = u m) → lastN t n = lastN u n
  | 0, _ => rfl
  | n + 1, h => by
    unfold lastN
    rw [h n (Nat.lt_succ_self _), lastN_congr fun m hm => h m (by omega)]
/-- as the greatest of those -/
theorem lastN_max (t : Nat → Bool) : ∀ n : Nat, (match ((List.range n).filter t).map (fun (o : Nat) => (o : Int)) with | [] => none | x :: r => some (maxI (x :: r))) = (lastN t n).map fun (o : Nat) => (o : Int)
  | 0 => rfl
  | n + 1 => by
    have ih := lastN_max t n
    have hb : ∀ y ∈ ((List.range n).filter t).map (fun (o : Nat) => (o : Int)), y < n := by
      intro y hy
      obtain ⟨o, ho, rfl⟩ := List.mem_map.mp hy
      have := List.mem_range.mp (List.mem_filter.mp ho).1
      omega
    rw [List.range_succ, List.filter_append, List.map_append]
    unfold lastN
    cases q : t n with
    | false =>
      rw [List.filter_cons_of_neg (by rw [q]; decide)]
      simp only [List.filter_nil, List.map_nil, List.append_nil, Bool.false_eq_true, if_false]
      exact ih
    | true =>
      rw [List.filter_cons_of_pos q, if_pos rfl]
      simp only [List.filter_nil, List.map_cons, List.map_nil, Option.map_some]
      generalize ((List.range n).filter t).map (fun (o : Nat) => (o : Int)) = xs at hb
      cases xs with
      | nil => rfl
      | cons x r =>
        show some ((r ++ [(n : Int)]).foldl max x) = some (n : Int)
        rw [List.foldl_append]
        show some (max (r.foldl max x) n) = some (n : Int)
        obtain ⟨h1, h2, h3⟩ := foldl_max r x
        have : r.foldl max x < n := by
          rcases h1 with h1 | h1
          · rw [h1]; exact hb x List.mem_cons_self
          · exact hb _ (List.mem_cons_of_mem _ h1)
        congr 1
        omega
/-- as what a loop over all finds last -/
theorem lastN_fold {α : Type} (t : Nat → Bool) (f : Nat → α) (z : α) : ∀ n : Nat, (List.range n).foldl (fun m o => if t o = true then f o else m) z = ((lastN t n).map f).getD z
  | 0 => rfl
  | n + 1 => by
    rw [List.range_succ, List.foldl_append, lastN_fold t f z n]
    show (if t n = true then f n else _) = ((if t n = true then some n else lastN t n).map f).getD z
    split <;> rfl
/-! ### the machine -/
def isW (p : Pr) (o : Nat) : Bool := !(aa p o).rd
def covers (p : Pr) (o : Nat) (c : Int) : Bool := (aa p o).sz.cells.contains c
def cellsA (p : Pr) (n : Nat) : List Int := (aa p n).sz.cells
/-- an elder write where the read is, that covers the cell -/
def tc (p : Pr) (st : Sd) (n : Nat) (c : Int) (o : Nat) : Bool := isW p o && (decide ((qa st o).here = (qa st n).here) && covers p o c)
def makers (p : Pr) (st : Sd) (n : Nat) : List (Option Nat) := (cellsA p n).map fun c => lastN (tc p st n c) n
def lying (p : Pr) (st : Sd) (n : Nat) (c : Int) : Option Nat := lastN (fun o => tc p st n c o && (qa st o).gone) n
def isOne (p : Pr) (st : Sd) (n : Nat) : Bool := match makers p st n with
  | some m :: r => !(qa st m).gone && r.all fun o => decide (o = some m)
  | _ => false
def wv (w : Int) : Option Nat → Int | none => -1 - w | some m => (m : Int)
def waits (p : Pr) (st : Sd) (n : Nat) : Bool := (makers p st n).any fun o => match o with | some m => !(qa st m).gone | none => false
def wordAt (st : Sd) (n : Nat) : Int := (qa st n).here.getD 0
def taken (p : Pr) (r : Rule) (st : Sd) (n : Nat) : Option (List Int) :=
  if r.hand = .cells ∨ isOne p st n = true then some ((makers p st n).map (wv (wordAt st n)))
  else if r.hand = .wait then (if waits p st n = true then none else some ((makers p st n).map (wv (wordAt st n))))
  else some ((cellsA p n).map fun c => wv (wordAt st n) (lying p st n c))
def placedAhead (p : Pr) (st : Sd) (n : Nat) : Bool := (List.range n).all fun o => !isW p o || (qa st o).here.isSome
def goneAhead (st : Sd) (n : Nat) : Bool := (List.range n).all fun o => (qa st o).gone
def mayRun (p : Pr) (r : Rule) (st : Sd) (n : Nat) : Bool := decide (r.run = .any) || ((decide (r.run = .guess) && !(qa st n).cl) || placedAhead p st n)
def mayGo (p : Pr) (r : Rule) (st : Sd) (n : Nat) : Bool :=
  if isW p n = true then (qa st n).here.isSome && goneAhead st n
  else if (qa st n).has.isSome = true then (if r.go = .eldest then goneAhead st n else (!decide (r.go = .known) || placedAhead p st n)) else false
def canBe (p : Pr) (r : Rule) (st : Sd) (e : Ev) : Bool :=
  if (qa st e.n).gone = true then false else match e.w with
  | .place => (qa st e.n).here.isNone && (match (aa p e.n).sp with | .told _ => true | .hung k _ _ => (qa st k).has.isSome)
  | .go => mayGo p r st e.n
  | .run => !isW p e.n && ((qa st e.n).here.isSome && ((qa st e.n).has.isNone && (mayRun p r st e.n && (taken p r st e.n).isSome)))
def allEv (m : Nat) : List Ev := (List.range m).map (Ev.mk .go) ++ ((List.range m).map (Ev.mk .place) ++ (List.range m).map (Ev.mk .run))
def eventsIn (p : Pr) (r : Rule) (st : Sd) : List Ev := (allEv p.length).filter (canBe p r st)
def rightOf (p : Pr) (k : Nat) : Option (List Int) := if (aa p k).rd = true then some (worth p k (aa p k)) else none
def wordFor (p : Pr) (st : Sd) (n : Nat) : Int := match (aa p n).sp with
  | .told w => w
  | .hung k a b => if (qa st k).has = rightOf p k then a else b
def shared (p : Pr) (w n : Nat) (has : List Int) : List Int := (((cellsA p n).zip has).filter fun q => covers p w q.1).map (·.2)
def isSpared (p : Pr) (r : Rule) (has : List Int) (w n : Nat) : Bool :=
  if r.spare = .never ∨ shared p w n has = [] then false
  else if r.spare = .each then (shared p w n has).all fun o => decide ((w : Int) < o) else (shared p w n has).any fun o => decide ((w : Int) < o)
def isLooked (p : Pr) (r : Rule) (word : Int) (w : Nat) (st : Sd) (n : Nat) : Bool := match r.look with
  | .all => true
  | .none => false
  | .sign => wordAt st n % 4 == word % 4
  | .word => wordAt st n == word
  | .cells => (wordAt st n == word) && (cellsA p n).any fun c => covers p w c
def clash (p : Pr) (r : Rule) (st : Sd) (w : Nat) (word : Int) (n : Nat) : Bool := match (qa st n).has with
  | some has => !(qa st n).gone && (isLooked p r word w st n && !isSpared p r has w n)
  | none => false
def clashes (p : Pr) (r : Rule) (st : Sd) (w : Nat) (word : Int) : List Nat := (List.range p.length).filter fun n => decide (w < n) && clash p r st w word n
def anew (q : Q) : Q := if q.gone = true then q else { q with here := none, has := none }
def anewAt (st : Sd) (i : Nat) : Sd := st.set i (anew (qa st i))
def tkB (st : Sd) (w n : Nat) : Bool := match (qa st n).has with | some has => !(qa st n).gone && has.contains (w : Int) | none => false
def takers (p : Pr) (r : Rule) (st : Sd) (w : Nat) : List Nat :=
  if isW p w = true ∧ r.back = .took then (List.range p.length).filter fun n => decide (w < n) && tkB st w n else []
def loseStep (p : Pr) (r : Rule) (z : Sd × List Nat) (o : Nat) : Sd × List Nat :=
  if (!(qa z.1 o).gone && (qa z.1 o).here.isSome) = true then (anewAt z.1 o, z.2 ++ takers p r (anewAt z.1 o) o) else z
def hungOn (p : Pr) (n : Nat) : List Nat := (List.range p.length).filter (hangs p n)
def loseOne (p : Pr) (r : Rule) (st : Sd) (w : List Nat) (read : Nat) : Sd × List Nat := (hungOn p read).foldl (loseStep p r) (st.set read { qa st read with has := none }, w)
def lose (p : Pr) (r : Rule) : Nat → Sd → List Nat → Sd
  | 0, st, _ => st
  | k + 1, st, w => match w.getLast? with
    | none => st
    | some read => if (qa st read).gone = true then lose p r k st w.dropLast else lose p r k (loseOne p r st w.dropLast read).1 (loseOne p r st w.dropLast read).2
def placed (p : Pr) (r : Rule) (st : Sd) (n : Nat) : Sd :=
  let word := wordFor p st n
  let st1 := st.set n { qa st n with here := some word }
  let reads := if isW p n = true then clashes p r st n word else []
  if reads = [] then st1 else
  let st2 := reads.foldl (fun s i => s.set i { qa s i with cl := true }) st1
  match r.again with
  | .one => reads.foldl (fun s i => s.set i ⟨(qa s i).here, none, false, true⟩) st2
  | .behind => ((List.range p.length).filter fun i => decide (reads.headD 0 ≤ i)).foldl anewAt st2
  | .all => (List.range p.length).foldl anewAt st2
  | .hanging => lose p r 1000 st2 reads
def step (p : Pr) (r : Rule) (st : Sd) (e : Ev) : Sd := match e.w with
  | .place => placed p r st e.n
  | .run => st.set e.n { qa st e.n with has := taken p r st e.n }
  | .go => st.set e.n { qa st e.n with gone := true }
def wrongIn (p : Pr) (st : Sd) : List Nat := (List.range p.length).filter fun n => (qa st n).gone && !(if isW p n = true then decide ((qa st n).here = some (aa p n).word) else decide ((qa st n).has = rightOf p n))
def begun (m : Nat) : Sd := List.replicate m Q.fresh
end DS

set_option Elab.async false
set_option linter.all false
set_option maxRecDepth 100000
set_option maxHeartbeats 4000000
/-! DST: more on loops and comprehensions; a plan on the heap. -/
namespace DS
open PySem
/-- a body that goes on -/
def On (r : RS) (e : En) (h : Hs) : Prop := r = .nx e h ∨ r = .ct e h
theorem forL_on {g : MG} {body : MS} {d : D} {ds : List D} {e e1 e2 : En} {h h1 h2 : Hs} (hg : g d e h = .ok e1 h1) (hb : On (body e1 h1) e2 h2) : forL g body (d :: ds) e h = forL g body ds e2 h2 := by
  conv => lhs; unfold forL
  rw [hg]
  show (match body e1 h1 with | _ => _) = _
  rcases hb with hb | hb <;> rw [hb]
theorem forL_run {g : MG} {body : MS} (E : Nat → En) (H : Nat → Hs) (xs : List D)
    (hs : ∀ i d, xs[i]? = some d → ∃ e1 h1, g d (E i) (H i) = .ok e1 h1 ∧ On (body e1 h1) (E (i + 1)) (H (i + 1))) : forL g body xs (E 0) (H 0) = .nx (E xs.length) (H xs.length) := by
  have aux : ∀ (ys pre : List D), xs = pre ++ ys → forL g body ys (E pre.length) (H pre.length) = .nx (E xs.length) (H xs.length) := by
    intro ys
    induction ys with
    | nil => intro pre e; rw [List.append_nil] at e; subst e; rfl
    | cons y ys ih =>
      intro pre e
      obtain ⟨e1, h1, q1, q2⟩ := hs pre.length y (by rw [e, List.getElem?_append_right (Nat.le_refl _)]; simp)
      rw [forL_on q1 q2]
      have := ih (pre ++ [y]) (by rw [e]; simp)
      rw [List.length_append] at this
      exact this
  exact aux xs [] rfl
theorem forL_foldC {α σ : Type} {g : MG} {body : MS} (E : σ → En) (H : σ → Hs) (f : α → D) (step : σ → α → σ) (P : Nat → σ → Prop) (xs : List α) (st : σ) (h0 : P 0 st)
    (hs : ∀ i st x, xs[i]? = some x → P i st → P (i + 1) (step st x) ∧ ∃ e1 h1, g (f x) (E st) (H st) = .ok e1 h1 ∧ On (body e1 h1) (E (step st x)) (H (step st x))) :
    forL g body (xs.map f) (E st) (H st) = .nx (E (xs.foldl step st)) (H (xs.foldl step st)) ∧ P xs.length (xs.foldl step st) := by
  have aux : ∀ (ys pre : List α) (st : σ), xs = pre ++ ys → P pre.length st → forL g body (ys.map f) (E st) (H st) = .nx (E (ys.foldl step st)) (H (ys.foldl step st)) ∧ P xs.length (ys.foldl step st) := by
    intro ys
    induction ys with
    | nil => intro pre st e hp; rw [List.append_nil] at e; subst e; exact ⟨rfl, hp⟩
    | cons y ys ih =>
      intro pre st e hp
      obtain ⟨hp2, e1, h1, q1, q2⟩ := hs pre.length st y (by rw [e, List.getElem?_append_right (Nat.le_refl _)]; simp) hp
      rw [List.map_cons, forL_on q1 q2]
      exact ih (pre ++ [y]) (step st y) (by rw [e]; simp) (by rw [List.length_append]; exact hp2)
  exact aux xs [] st rfl h0
/-- a loop over a list that stays -/
theorem forGo_lv {g : MG} {body : MS} {k : Nat} (E : Nat → En) (H : Nat → Hs) (xs : List D) (hk : ∀ i, i ≤ xs.length → (H i)[k]? = some (.lst xs))
    (hs : ∀ i d, xs[i]? = some d → ∃ e1 h1, g d (E i) (H i) = .ok e1 h1 ∧ On (body e1 h1) (E (i + 1)) (H (i + 1))) : ∀ (m i : Nat), i + m = xs.length → forGo (.one (.lv k)) g body m i (E i) (H i) = .nx (E xs.length) (H xs.length)
  | 0, i, hi => by
    have : i = xs.length := by omega
    subst this
    unfold forGo
    have q : (Iter.one (.lv k)).get xs.length (H xs.length) = some none := by
      simp only [Iter.get, Src.get, hk _ (Nat.le_refl _), Option.bind_some, lsO, Option.map_some, List.getElem?_eq_none (Nat.le_refl _)]
    rw [q]
  | m + 1, i, hi => by
    have hlt : i < xs.length := by omega
    obtain ⟨e1, h1, q1, q2⟩ := hs i xs[i] (List.getElem?_eq_getElem hlt)
    unfold forGo
    have q : (Iter.one (.lv k)).get i (H i) = some (some xs[i]) := by
      simp only [Iter.get, Src.get, hk _ (Nat.le_of_lt hlt), Option.bind_some, lsO, Option.map_some, List.getElem?_eq_getElem hlt]
    rw [q]
    simp only [q1]
    rcases q2 with q2 | q2 <;> (rw [q2]; exact forGo_lv E H xs hk hs m (i + 1) (by omega))
theorem for_lv {mi : MI} {g : MG} {body : MS} {e : En} {h h1 : Hs} {k : Nat} (E : Nat → En) (H : Nat → Hs) (xs : List D) (hm : mi e h = .ok (.one (.lv k)) h1) (h0 : E 0 = e) (hh0 : H 0 = h1) (hk : ∀ i, i ≤ xs.length → (H i)[k]? = some (.lst xs))
    (hs : ∀ i d, xs[i]? = some d → ∃ e1 h1, g d (E i) (H i) = .ok e1 h1 ∧ On (body e1 h1) (E (i + 1)) (H (i + 1))) : sFor mi g body e h = .nx (E xs.length) (H xs.length) := by
  unfold sFor
  rw [hm]
  show forGo _ g body ((Iter.one (.lv k)).len h1) 0 e h1 = _
  have hl : (Iter.one (.lv k)).len h1 = xs.length := by
    have := hk 0 (Nat.zero_le _)
    rw [hh0] at this
    simp only [Iter.len, Src.len, this, Option.bind_some, lsO]
  rw [hl, ← h0, ← hh0]
  exact forGo_lv E H xs hk hs xs.length 0 (by omega)
/-- .. as a fold -/
theorem for_lvF {α σ : Type} {mi : MI} {g : MG} {body : MS} {e : En} {h h1 : Hs} {k : Nat} (E : σ → En) (H : σ → Hs) (f : α → D) (step : σ → α → σ) (P : Nat → σ → Prop) (xs : List α) (st : σ) (hm : mi e h = .ok (.one (.lv k)) h1) (he : E st = e) (hh : H st = h1) (h0 : P 0 st)
    (hk : ∀ i st, P i st → (H st)[k]? = some (.lst (xs.map f)))
    (hs : ∀ i st x, xs[i]? = some x → P i st → P (i + 1) (step st x) ∧ ∃ e1 h1, g (f x) (E st) (H st) = .ok e1 h1 ∧ On (body e1 h1) (E (step st x)) (H (step st x))) :
    sFor mi g body e h = .nx (E (xs.foldl step st)) (H (xs.foldl step st)) ∧ P xs.length (xs.foldl step st) := by
  have hP : ∀ i, i ≤ xs.length → P i ((xs.take i).foldl step st) := by
    intro i
    induction i with
    | zero => intro _; simpa using h0
    | succ i ih =>
      intro hi
      have hx : xs[i]? = some xs[i] := List.getElem?_eq_getElem (by omega)
      have := (hs i _ xs[i] hx (ih (by omega))).1
      rw [List.take_add_one, hx, List.foldl_append]
      exact this
  have key := for_lv (mi := mi) (g := g) (body := body) (e := e) (h := h) (h1 := h1) (k := k) (fun i => E ((xs.take i).foldl step st)) (fun i => H ((xs.take i).foldl step st)) (xs.map f) hm (by simpa using he) (by simpa using hh)
    (fun i hi => hk i _ (hP i (by simpa using hi))) (fun i d hd => by
      rw [List.getElem?_map] at hd
      cases hx : xs[i]? with
      | none => rw [hx] at hd; cases hd
      | some x =>
        rw [hx] at hd
        cases hd
        have hlt := (List.getElem?_eq_some_iff.mp hx).1
        obtain ⟨_, e1, h1, q1, q2⟩ := hs i _ x hx (hP i (by omega))
        refine ⟨e1, h1, q1, ?_⟩
        rw [List.take_add_one, hx, List.foldl_append]
        exact q2)
  rw [List.length_map, List.take_of_length_le (Nat.le_refl _)] at key
  have hp := hP xs.length (Nat.le_refl _)
  rw [List.take_of_length_le (Nat.le_refl _)] at hp
  exact ⟨key, hp⟩
/-! comprehensions where the iterable makes something -/
theorem compL {vs : List Nat} {mi : MI} {g : Tgt} {t : MT} {e : ME} {env : En} {h0 h : Hs} {it : Iter} {α : Type} (xs : List α) (f : α → D) (T : α → Bool) (Y : α → D) (hm : mi env h0 = .ok it h) (hl : it.len h = xs.length) (hget : ∀ i, i ≤ xs.length → it.get i h = some (xs.map f)[i]?) (hn : xs.length ≤ 100000)
    (hs : ∀ x ∈ xs, ∃ e1, g.put (f x) (wipeE env vs) = some e1 ∧ t e1 h = .ok (T x) h ∧ (T x = true → gcR h.length (e e1 h) = .ok (Y x) h)) :
    eComp vs mi g t e env h0 = .ok (.ref h.length) (h ++ [.lst ((xs.filter T).map Y)]) := by
  unfold eComp
  rw [hm]
  show (cpGo it g t e (wipeE env vs) (it.len h) 0 [] h).bind _ = _
  rw [hl, cpGo_L hget hn hs xs.length 0 [] (by omega) (Nat.le_refl _)]
  simp only [bind_ok, List.nil_append, List.drop_zero]
theorem compTup {vs : List Nat} {mi : MI} {g : Tgt} {t : MT} {e : ME} {env : En} {h0 h : Hs} {α : Type} (xs : List α) (f : α → D) (T : α → Bool) (Y : α → D) (hm : mi env h0 = .ok (.one (.st (xs.map f))) h) (hn : xs.length ≤ 100000)
    (hs : ∀ x ∈ xs, ∃ e1, g.put (f x) (wipeE env vs) = some e1 ∧ t e1 h = .ok (T x) h ∧ (T x = true → gcR h.length (e e1 h) = .ok (Y x) h)) :
    eComp vs mi g t e env h0 = .ok (.ref h.length) (h ++ [.lst ((xs.filter T).map Y)]) :=
  compL xs f T Y hm (by show (xs.map f).length = _; simp) (fun _ _ => rfl) hn hs
theorem compLst {vs : List Nat} {mi : MI} {g : Tgt} {t : MT} {e : ME} {env : En} {h0 h : Hs} {n : Nat} {α : Type} (xs : List α) (f : α → D) (T : α → Bool) (Y : α → D) (hm : mi env h0 = .ok (.one (.lv n)) h) (hg : h[n]? = some (.lst (xs.map f))) (hn : xs.length ≤ 100000)
    (hs : ∀ x ∈ xs, ∃ e1, g.put (f x) (wipeE env vs) = some e1 ∧ t e1 h = .ok (T x) h ∧ (T x = true → gcR h.length (e e1 h) = .ok (Y x) h)) :
    eComp vs mi g t e env h0 = .ok (.ref h.length) (h ++ [.lst ((xs.filter T).map Y)]) :=
  compL xs f T Y hm (by simp only [Iter.len, Src.len, hg, Option.bind_some, lsO]; simp) (fun i _ => by simp only [Iter.get, Src.get, hg, Option.bind_some, lsO, Option.map_some]) hn hs
theorem compZip {vs : List Nat} {mi : MI} {g : Tgt} {t : MT} {e : ME} {env : En} {h0 h : Hs} {as bs : List D} (T : D × D → Bool) (Y : D × D → D) (hm : mi env h0 = .ok (.zip (.st as) (.st bs)) h) (hn : as.length ≤ 100000)
    (hs : ∀ x ∈ as.zip bs, ∃ e1, g.put (.tup [x.1, x.2]) (wipeE env vs) = some e1 ∧ t e1 h = .ok (T x) h ∧ (T x = true → gcR h.length (e e1 h) = .ok (Y x) h)) :
    eComp vs mi g t e env h0 = .ok (.ref h.length) (h ++ [.lst (((as.zip bs).filter T).map Y)]) := by
  refine compL (as.zip bs) (fun x => .tup [x.1, x.2]) T Y hm ?_ ?_ ?_ hs
  · show min as.length bs.length = _
    rw [List.length_zip]
  · intro i _
    rw [List.getElem?_map, List.zip, List.getElem?_zipWith]
    show (match some as[i]?, some bs[i]? with | some (some x), some (some y) => some (some (D.tup [x, y])) | some _, some _ => some none | _, _ => none) = _
    cases as[i]? <;> cases bs[i]? <;> rfl
  · rw [List.length_zip]; omega
theorem gc_val {h r : Hs} {d : D} {z : R D} (hz : z = .ok d (h ++ r)) (hc : Cl h) (hd : dLow h.length d = true) : gcR h.length z = .ok d h := by
  rw [hz]; exact gc_low rfl hc hd
theorem iter_lv {k : Nat} {xs : List D} {e : ME} {env : En} {h h1 : Hs} (he : e env h = .ok (.ref k) h1) (hk : h1[k]? = some (.lst xs)) : iSeq e env h = .ok (.one (.lv k)) h1 := by
  unfold iSeq
  rw [he]
  simp only [bind_ok, srcOf, hk, Option.bind_some, lsO]
theorem bls_of (bs : List Bool) : blsOf (bs.map .bl) = some bs := by
  induction bs with
  | nil => rfl
  | cons b r ih => rw [List.map_cons]; simp only [blsOf, ih, Option.map_some]
theorem ints_of (ns : List Int) : intsOf (ns.map .int) = some ns := by
  induction ns with
  | nil => rfl
  | cons b r ih => rw [List.map_cons]; simp only [intsOf, ih, Option.map_some]
theorem all_ref {k : Nat} {h : Hs} {bs : List Bool} (hk : h[k]? = some (.lst (bs.map .bl))) : vAll [.ref k] h = some (.bl (bs.all id), h) := by
  simp only [vAll, listOf1, hk, Option.bind_some, lsO, bls_of]
theorem any_ref {k : Nat} {h : Hs} {bs : List Bool} (hk : h[k]? = some (.lst (bs.map .bl))) : vAny [.ref k] h = some (.bl (bs.any id), h) := by
  simp only [vAny, listOf1, hk, Option.bind_some, lsO, bls_of]
theorem list_tup {xs : List D} {h : Hs} : vList [.tup xs] h = some (.ref h.length, h ++ [.lst xs]) := rfl
theorem list_ref {k : Nat} {xs : List D} {h : Hs} (hk : h[k]? = some (.lst xs)) : vList [.ref k] h = some (.ref h.length, h ++ [.lst xs]) := by
  simp only [vList, seqOf, hk]
theorem len_ref {k : Nat} {xs : List D} {h : Hs} (hk : h[k]? = some (.lst xs)) : vLen [.ref k] h = some (.int xs.length, h) := by
  simp only [vLen, seqOf, hk]
theorem lput_ref {k i : Nat} {xs : List D} {d : D} {h : Hs} (hk : h[k]? = some (.lst xs)) (hi : i < xs.length) : vLPut (.ref k) (.int (i : Int)) d h = some (h.set k (.lst (xs.set i d))) := by
  simp only [vLPut, hk]
  rw [L2.ixN, if_pos (by omega), if_pos (by omega)]
  simp
theorem pop_ref {k : Nat} {xs : List D} {d : D} {h : Hs} (hk : h[k]? = some (.lst (xs ++ [d]))) : vPop (.ref k) [] h = some (d, h.set k (.lst xs)) := by
  simp only [vPop, hk]
  simp
theorem extend_ref {k m : Nat} {xs ys : List D} {h : Hs} (hk : h[k]? = some (.lst xs)) (hm : h[m]? = some (.lst ys)) (hl : xs.length + ys.length ≤ 100000) : vExtend (.ref k) [.ref m] h = some (.non, h.set k (.lst (xs ++ ys))) := by
  simp only [vExtend, hk, hm]
  rw [if_pos (sz_le hl)]
theorem eq_nil {n : Nat} {xs : List D} {h : Hs} (hn : h[n]? = some (.lst xs)) (hx : xs.all (okN 29) = true) : vEq (.ref n) (.ref h.length) (h ++ [.lst []]) = some (.bl xs.isEmpty, h ++ [.lst []]) := by
  have := ne_nil hn hx
  unfold vNe at this
  unfold vEq
  cases q : eqH (.ref n) (.ref h.length) (h ++ [.lst []]) with
  | none => rw [q] at this; cases this
  | some b =>
    rw [q] at this
    simp only [Option.map_some, Option.some.injEq, Prod.mk.injEq, D.bl.injEq, and_true] at this ⊢
    cases b <;> cases e : xs.isEmpty <;> rw [e] at this <;> first | rfl | cases this
/-- what is found in a longer heap -/
theorem app_at {h r : Hs} {k : Nat} {o : O} (hk : h[k]? = some o) : (h ++ r)[k]? = some o := by
  rw [List.getElem?_append_left (List.getElem?_eq_some_iff.mp hk).1]; exact hk
theorem lt_of {h : Hs} {k : Nat} {o : O} (hk : h[k]? = some o) : k < h.length := (List.getElem?_eq_some_iff.mp hk).1
/-! ### a plan -/
structure PlanK where
  kN : Nat
  kP : Nat
  kC : Nat
  kR : Nat
  kT : Nat
  kH : Nat
  hl : List Nat
def planF (k : PlanK) (p : Pr) (r : Rule) : List (Str × D) := [("many", .int p.length), ("kinds", .ref k.kN), ("places", .ref k.kP), ("covered", .ref k.kC), ("right", .ref k.kR), ("true_word", .ref k.kT), ("hung", .ref k.kH),
  ("own_run", .str r.run.s), ("own_hand", .str r.hand.s), ("own_look", .str r.look.s), ("own_spare", .str r.spare.s), ("own_again", .str r.again.s), ("own_back", .str r.back.s), ("own_go", .str r.go.s)]
structure PlanAt (h : Hs) (n : Nat) (p : Pr) (r : Rule) (k : PlanK) : Prop where
  at_ : h[n]? = some (.ins 0 (planF k p r))
  kinds : h[k.kN]? = some (.lst (p.map fun a => kdD a.rd))
  places : h[k.kP]? = some (.lst (p.map fun a => a.sp.d))
  covered : h[k.kC]? = some (.lst (p.map fun a => .tup (a.sz.cells.map .int)))
  right : h[k.kR]? = some (.lst (p.zipIdx.map (rightD p)))
  words : h[k.kT]? = some (.lst (wordsD p))
  hung : h[k.kH]? = some (.lst (k.hl.map .ref))
  hlen : k.hl.length = p.length
  each : ∀ (i j : Nat), k.hl[i]? = some j → h[j]? = some (.lst ((hangL p i p.length).map .int))
theorem PlanAt.app {h t : Hs} {n : Nat} {p : Pr} {r : Rule} {k : PlanK} (P : PlanAt h n p r k) : PlanAt (h ++ t) n p r k :=
  ⟨app_at P.at_, app_at P.kinds, app_at P.places, app_at P.covered, app_at P.right, app_at P.words, app_at P.hung, P.hlen, fun i j e => app_at (P.each i j e)⟩
section
variable {h : Hs} {n : Nat} {p : Pr} {r : Rule} {k : PlanK}
theorem fld_at {c : Nat} {fs : List (Str × D)} {f : Str} {v : D} (ha : h[n]? = some (.ins c fs)) (hl : fs.lookup f = some v) : vFld [c] f (.ref n) h = some (v, h) := by
  simp only [vFld, ha]
  rw [if_pos (by simp), hl]
  rfl
theorem PlanAt.f_many (P : PlanAt h n p r k) : vFld [0] "many" (.ref n) h = some (.int p.length, h) := fld_at P.at_ (by kernel_rfl)
theorem PlanAt.f_kinds (P : PlanAt h n p r k) : vFld [0] "kinds" (.ref n) h = some (.ref k.kN, h) := fld_at P.at_ (by kernel_rfl)
theorem PlanAt.f_places (P : PlanAt h n p r k) : vFld [0] "places" (.ref n) h = some (.ref k.kP, h) := fld_at P.at_ (by kernel_rfl)
theorem PlanAt.f_covered (P : PlanAt h n p r k) : vFld [0] "covered" (.ref n) h = some (.ref k.kC, h) := fld_at P.at_ (by kernel_rfl)
theorem PlanAt.f_right (P : PlanAt h n p r k) : vFld [0] "right" (.ref n) h = some (.ref k.kR, h) := fld_at P.at_ (by kernel_rfl)
theorem PlanAt.f_words (P : PlanAt h n p r k) : vFld [0] "true_word" (.ref n) h = some (.ref k.kT, h) := fld_at P.at_ (by kernel_rfl)
theorem PlanAt.f_hung (P : PlanAt h n p r k) : vFld [0] "hung" (.ref n) h = some (.ref k.kH, h) := fld_at P.at_ (by kernel_rfl)
theorem PlanAt.f_run (P : PlanAt h n p r k) : vFld [0] "own_run" (.ref n) h = some (.str r.run.s, h) := fld_at P.at_ (by kernel_rfl)
theorem PlanAt.f_hand (P : PlanAt h n p r k) : vFld [0] "own_hand" (.ref n) h = some (.str r.hand.s, h) := fld_at P.at_ (by kernel_rfl)
theorem PlanAt.f_look (P : PlanAt h n p r k) : vFld [0] "own_look" (.ref n) h = some (.str r.look.s, h) := fld_at P.at_ (by kernel_rfl)
theorem PlanAt.f_spare (P : PlanAt h n p r k) : vFld [0] "own_spare" (.ref n) h = some (.str r.spare.s, h) := fld_at P.at_ (by kernel_rfl)
theorem PlanAt.f_again (P : PlanAt h n p r k) : vFld [0] "own_again" (.ref n) h = some (.str r.again.s, h) := fld_at P.at_ (by kernel_rfl)
theorem PlanAt.f_back (P : PlanAt h n p r k) : vFld [0] "own_back" (.ref n) h = some (.str r.back.s, h) := fld_at P.at_ (by kernel_rfl)
theorem PlanAt.f_go (P : PlanAt h n p r k) : vFld [0] "own_go" (.ref n) h = some (.str r.go.s, h) := fld_at P.at_ (by kernel_rfl)
/-- a name that is no field -/
theorem PlanAt.m (P : PlanAt h n p r k) {m : Str} (hm : ((planF k p r).lookup m).isNone = true) : isC 0 m (.ref n) h = true := by
  simp only [isC, P.at_, hm]
  rfl
end
end DS

set_option Elab.async false
set_option linter.all false
set_option maxRecDepth 100000
set_option maxHeartbeats 4000000
/-! DRU: rules as rows of words; comprehensions of two clauses. -/
namespace DS
open PySem
/-- one clause, gathering -/
theorem cpGo_R {it : Iter} {g : Tgt} {t : MT} {e : ME} {env : En} {h : Hs} {α : Type} {xs : List α} {f : α → D} {T : α → Bool} {Y : α → D} {N : Nat} (hget : ∀ i, i ≤ xs.length → it.get i h = some (xs.map f)[i]?) (hN : N ≤ 100000)
    (hs : ∀ x ∈ xs, ∃ e1, g.put (f x) env = some e1 ∧ t e1 h = .ok (T x) h ∧ (T x = true → gcR h.length (e e1 h) = .ok (Y x) h)) :
    ∀ (k i : Nat) (acc : List D), i + k = xs.length → acc.length + k ≤ N → cpGo it g t e env k i acc h = .ok (acc ++ ((xs.drop i).filter T).map Y) h
  | 0, i, acc, hi, ha => by
    have : i = xs.length := by omega
    subst this
    unfold cpGo
    rw [hget _ (Nat.le_refl _), List.getElem?_eq_none (by simp), List.drop_length]
    simp
  | k + 1, i, acc, hi, ha => by
    have hlt : i < xs.length := by omega
    obtain ⟨e1, q2, q3, q4⟩ := hs xs[i] (List.getElem_mem hlt)
    unfold cpGo
    rw [hget _ (Nat.le_of_lt hlt), List.getElem?_map, List.getElem?_eq_getElem hlt, List.drop_eq_getElem_cons hlt]
    simp only [Option.map_some, q2, q3, R.nox, bind_ok]
    cases q : T xs[i] with
    | true =>
      simp only [if_true, q4 q, R.nox, bind_ok]
      have : acc.length < sizeLine := Nat.lt_of_le_of_lt (show acc.length ≤ 100000 by omega) (by decide)
      rw [if_pos this, cpGo_R hget hN hs k (i + 1) (acc ++ [Y xs[i]]) (by omega) (by simp only [List.length_append, List.length_cons, List.length_nil]; omega)]
      rw [List.filter_cons_of_pos q, List.map_cons, List.append_assoc]
      rfl
    | false =>
      rw [if_neg (by decide), cpGo_R hget hN hs k (i + 1) acc (by omega) (by omega), List.filter_cons_of_neg (by rw [q]; decide)]
/-- two clauses -/
theorem cpGo2_R {it : Iter} {g g1 : Tgt} {t t1 : MT} {mi1 : MI} {vs1 : List Nat} {e : ME} {env : En} {h : Hs} {α β : Type} {xs : List α} {f : α → D} {ys : α → List β} {f1 : β → D} {T : α → β → Bool} {Y : α → β → D} {B : Nat} (hget : ∀ i, i ≤ xs.length → it.get i h = some (xs.map f)[i]?)
    (hB : ∀ x, (ys x).length ≤ B) (hn : xs.length * B ≤ 100000)
    (hs : ∀ x ∈ xs, ∃ e1 it1, g.put (f x) env = some e1 ∧ t e1 h = .ok true h ∧ mi1 e1 h = .ok it1 h ∧ it1.len h = (ys x).length ∧ (∀ i, i ≤ (ys x).length → it1.get i h = some ((ys x).map f1)[i]?) ∧
      ∀ y ∈ ys x, ∃ e2, g1.put (f1 y) (wipeE e1 vs1) = some e2 ∧ t1 e2 h = .ok (T x y) h ∧ (T x y = true → gcR h.length (e e2 h) = .ok (Y x y) h)) :
    ∀ (k i : Nat) (acc : List D), i + k = xs.length → acc.length ≤ i * B → cpGo2 it g t mi1 g1 t1 vs1 e env k i acc h = .ok (acc ++ (xs.drop i).flatMap fun x => ((ys x).filter (T x)).map (Y x)) h
  | 0, i, acc, hi, ha => by
    have : i = xs.length := by omega
    subst this
    unfold cpGo2
    rw [hget _ (Nat.le_refl _), List.getElem?_eq_none (by simp), List.drop_length]
    simp
  | k + 1, i, acc, hi, ha => by
    have hlt : i < xs.length := by omega
    obtain ⟨e1, it1, q1, q2, q3, q4, q5, q6⟩ := hs xs[i] (List.getElem_mem hlt)
    have bi := hB xs[i]
    have m1 : (i + 1) * B ≤ xs.length * B := Nat.mul_le_mul_right _ (by omega)
    rw [Nat.add_mul, Nat.one_mul] at m1
    unfold cpGo2
    rw [hget _ (Nat.le_of_lt hlt), List.getElem?_map, List.getElem?_eq_getElem hlt, List.drop_eq_getElem_cons hlt]
    simp only [Option.map_some, q1, q2, q3, R.nox, bind_ok, if_true]
    rw [q4, cpGo_R (N := 100000) q5 (Nat.le_refl _) q6 (ys xs[i]).length 0 acc (by omega) (by omega)]
    simp only [bind_ok, List.drop_zero]
    have fl := List.length_filter_le (T xs[i]) (ys xs[i])
    rw [cpGo2_R hget hB hn hs k (i + 1) _ (by omega) (by rw [List.length_append, List.length_map, Nat.add_mul, Nat.one_mul]; omega), List.flatMap_cons, List.append_assoc]
/-! ### words -/
abbrev chS : List (List Str) := [["any", "guess", "known"], ["cells", "wait", "store"], ["cells", "word", "sign", "all", "none"], ["never", "each", "some"], ["one", "hanging", "behind", "all"], ["took", "none"], ["eldest", "known", "ran"]]
def wsD (ws : List Str) : List D := ws.map .str
def rwD (ws : List Str) : D := .tup (wsD ws)
theorem wsD_len (ws : List Str) : (wsD ws).length = ws.length := by simp [wsD]
theorem wsD_low {n : Nat} (ws : List Str) : dLows n (wsD ws) = true := by
  rw [dLows_of, wsD, List.all_map]; exact List.all_eq_true.mpr fun _ _ => rfl
theorem rwD_low {n : Nat} (ws : List Str) : dLow n (rwD ws) = true := wsD_low ws
theorem rwDs_low {n : Nat} (xs : List (List Str)) : dLows n (xs.map rwD) = true := by
  rw [dLows_of, List.all_map]; exact List.all_eq_true.mpr fun x _ => rwD_low x
def Rule.w (r : Rule) : List Str := [r.run.s, r.hand.s, r.look.s, r.spare.s, r.again.s, r.back.s, r.go.s]
theorem Rule.d_w (r : Rule) : r.d = rwD r.w := rfl
def allRun : List WRun := [.any, .guess, .known]
def allHand : List WHand := [.cells, .wait, .store]
def allLook : List WLook := [.cells, .word, .sign, .all, .none]
def allSpare : List WSpare := [.never, .each, .some]
def allAgain : List WAgain := [.one, .hanging, .behind, .all]
def allBack : List WBack := [.took, .none]
def allGo : List WGo := [.eldest, .known, .ran]
def rules : List Rule := allRun.flatMap fun a => allHand.flatMap fun b => allLook.flatMap fun c => allSpare.flatMap fun d => allAgain.flatMap fun e => allBack.flatMap fun f => allGo.map fun g => ⟨a, b, c, d, e, f, g⟩
theorem mem_rules (r : Rule) : r ∈ rules := by
  obtain ⟨a, b, c, d, e, f, g⟩ := r
  simp only [rules, List.mem_flatMap, List.mem_map]
  exact ⟨a, by cases a <;> decide, b, by cases b <;> decide, c, by cases c <;> decide, d, by cases d <;> decide, e, by cases e <;> decide, f, by cases f <;> decide, g, by cases g <;> decide, rfl⟩
def extW (xs : List (List Str)) (ws : List Str) : List (List Str) := xs.flatMap fun x => ws.map fun w => x ++ [w]
theorem rules_ext : chS.foldl extW [[]] = rules.map Rule.w := by kernel_rfl
theorem rules_len : rules.length = 3240 := by decide +kernel
theorem extW_len {ws : List Str} (hw : ws.length ≤ 5) : ∀ xs : List (List Str), (extW xs ws).length ≤ xs.length * 5
  | [] => by simp [extW]
  | x :: xs => by
    have := extW_len hw xs
    unfold extW at this ⊢
    rw [List.flatMap_cons, List.length_append, List.length_map, List.length_cons]
    omega
theorem strOk_all : ∀ ws ∈ chS, ∀ w ∈ ws, PyData.strOk w = true := by decide +kernel
theorem extW_mem {xs : List (List Str)} {ws : List Str} {y : List Str} (h : y ∈ extW xs ws) : ∃ x ∈ xs, ∃ w ∈ ws, y = x ++ [w] := by
  obtain ⟨x, hx, hy⟩ := List.mem_flatMap.mp h
  obtain ⟨w, hw, rfl⟩ := List.mem_map.mp hy
  exact ⟨x, hx, w, hw, rfl⟩
/-- a body that keeps what it made -/
theorem tidy_keep {clr : List Nat} {m : MS} {e e1 : En} {h h1 : Hs} (hm : m e h = .nx e1 h1) (hl : eLow h.length (wipeE e1 clr) = false) : sTidy clr m e h = .nx (wipeE e1 clr) h1 := by
  unfold sTidy
  rw [hm]
  show RS.nx (tidyE clr h.length e1 h1).1 (tidyE clr h.length e1 h1).2 = _
  unfold tidyE
  rw [if_neg (by rw [hl, Bool.false_and]; decide)]
theorem rws_oLow {n : Nat} (xs : List (List Str)) : oLow n (.lst (xs.map rwD)) = true := rwDs_low xs
theorem star_ok {x : List Str} {w : Str} {env : En} {i j : Nat} {h : Hs} (hi : env[i]? = some (some (rwD x))) (hj : env[j]? = some (some (.str w))) (hx : x.length ≤ 1000) : eOpN vTup (aStar (eVar i) (aCons (eVar j) aNil)) env h = .ok (rwD (x ++ [w])) h := by
  have e : wsD x ++ [D.str w] = wsD (x ++ [w]) := by simp [wsD]
  have vt := vTup_ok (ds := wsD (x ++ [w])) (h := h) (by rw [wsD_len, List.length_append]; simp; omega)
  unfold eOpN aStar aCons aNil eVar
  simp only [hi, hj, bind_ok, seqOf, rwD, e, vt, lft_some]
theorem addw_ok {x : List Str} {w : Str} {h : Hs} (hx : x.length ≤ 1000) : vAdd (rwD x) (.tup [.str w]) h = some (rwD (x ++ [w]), h) := by
  have e : wsD x ++ [D.str w] = wsD (x ++ [w]) := by simp [wsD]
  have l : (wsD x).length + [D.str w].length ≤ sizeLine := sz_le (by rw [wsD_len]; simp; omega)
  unfold vAdd rwD
  simp only
  rw [if_pos l, e]
/-- lists behind h -/
theorem add_app {h t : Hs} {i j m n : Nat} {xs ys : List D} (hm : m = h.length + i) (hn : n = h.length + j) (hi : t[i]? = some (.lst xs)) (hj : t[j]? = some (.lst ys)) (hl : xs.length + ys.length ≤ 100000) : vAdd (.ref m) (.ref n) (h ++ t) = some (.ref (h.length + t.length), h ++ (t ++ [.lst (xs ++ ys)])) := by
  have e1 : (h ++ t)[m]? = some (.lst xs) := by rw [hm, app_get]; exact hi
  have e2 : (h ++ t)[n]? = some (.lst ys) := by rw [hn, app_get]; exact hj
  unfold vAdd
  simp only [e1, e2]
  rw [if_pos (sz_le hl), List.append_assoc, List.length_append]
theorem lst_app {h t : Hs} {ds : List D} (hl : ds.length ≤ 100000) : vLst ds (h ++ t) = some (.ref (h.length + t.length), h ++ (t ++ [.lst ds])) := vLst_app hl
theorem tup0 {h : Hs} : vTup [] h = some (.tup [], h) := vTup_ok (by simp)
theorem tup1 {a : D} {h : Hs} : vTup [a] h = some (.tup [a], h) := vTup_ok (by simp)
theorem tup2 {a b : D} {h : Hs} : vTup [a, b] h = some (.tup [a, b], h) := vTup_ok (by simp)
theorem tup3 {a b c : D} {h : Hs} : vTup [a, b, c] h = some (.tup [a, b, c], h) := vTup_ok (by simp)
theorem tup4 {a b c d : D} {h : Hs} : vTup [a, b, c, d] h = some (.tup [a, b, c, d], h) := vTup_ok (by simp)
theorem tup5 {a b c d e : D} {h : Hs} : vTup [a, b, c, d, e] h = some (.tup [a, b, c, d, e], h) := vTup_ok (by simp)
theorem tup6 {a b c d e f : D} {h : Hs} : vTup [a, b, c, d, e, f] h = some (.tup [a, b, c, d, e, f], h) := vTup_ok (by simp)
theorem tup7 {a b c d e f g : D} {h : Hs} : vTup [a, b, c, d, e, f, g] h = some (.tup [a, b, c, d, e, f, g], h) := vTup_ok (by simp)
theorem tup8 {a b c d e f g i : D} {h : Hs} : vTup [a, b, c, d, e, f, g, i] h = some (.tup [a, b, c, d, e, f, g, i], h) := vTup_ok (by simp)
end DS

set_option Elab.async false
set_option linter.all false
set_option maxRecDepth 100000
set_option maxHeartbeats 4000000
/-! RUL1: all rules, the law's own. -/
namespace K03
open DS PySem
variable {h : Hs}
theorem all_step {k : Nat} {cur : List (List Str)} {ws : List Str} (hc : Cl h) (hk : h[k]? = some (.lst (cur.map rwD))) (hw : ws.length ≤ 5) (hn : cur.length * 5 ≤ 100000) (hx : ∀ x ∈ cur, x.length ≤ 1000) :
    b1_all_rules [some (.ref k), some (rwD ws), none, none] h = .nx [some (.ref h.length), none, none, none] (h ++ [.lst ((extW cur ws).map rwD)]) := by
  have q : q1_all_rules [some (.ref k), some (rwD ws), none, none] h = .ok (.ref h.length) (h ++ [.lst ((extW cur ws).map rwD)]) := by
    unfold q1_all_rules eComp2
    rw [iter_lv rfl hk]
    simp only [bind_ok]
    have key := cpGo2_R (it := Iter.one (.lv k)) (g := .nm 2) (g1 := .nm 3) (t := tTrue) (t1 := tTrue) (mi1 := iSeq (eVar 1)) (vs1 := [3]) (e := eOpN vTup (aStar (eVar 2) (aCons (eVar 3) aNil))) (env := wipeE [some (.ref k), some (rwD ws), none, none] [2, 3]) (h := h)
      (xs := cur) (f := rwD) (ys := fun _ => ws) (f1 := D.str) (T := fun _ _ => true) (Y := fun x w => rwD (x ++ [w])) (B := 5)
      (fun i _ => by simp only [Iter.get, Src.get, hk, Option.bind_some, lsO, Option.map_some]) (fun _ => hw) hn
      (fun x hx' => ⟨[some (.ref k), some (rwD ws), some (rwD x), none], .one (.st (wsD ws)), rfl, rfl, rfl, wsD_len ws, fun i _ => rfl, fun w hw' => ⟨[some (.ref k), some (rwD ws), some (rwD x), some (.str w)], rfl, rfl, fun _ => gc_pure (star_ok rfl rfl (hx x hx')) hc (rwD_low _)⟩⟩)
      cur.length 0 [] (by omega) (by simp)
    have e0 : (Iter.one (Src.lv k)).len h = cur.length := by simp only [Iter.len, Src.len, hk, Option.bind_some, lsO, List.length_map]
    rw [e0, key]
    simp only [bind_ok, List.nil_append, List.drop_zero]
    have e1 : (cur.flatMap fun x => (ws.filter fun _ => true).map fun w => rwD (x ++ [w])) = (extW cur ws).map rwD := by
      unfold extW
      rw [List.map_flatMap]
      congr 1
      funext x
      rw [filter_all, List.map_map]
      rfl
    rw [e1]
  unfold b1_all_rules
  exact tidy_keep (e1 := [some (.ref h.length), some (rwD ws), none, none]) (by simp only [sSeq, sSet, sRet, sRetN, sIf, sPass, sExpr, sPar2, sAsg, tsB, tNotM, tAndM, tOrM, eAndM, eOrM, eNotM, eIfM, eOp1, eOp2, eOpN, eCall, DS.guard, aCons, aNil, eVar, eC, bind_ok, lft_some, ofR_ok, eIsi, Option.map_some, List.length_cons, List.length_nil, List.getElem?_cons_zero, List.getElem?_cons_succ, List.set_cons_zero, List.set_cons_succ, if_true, if_false, Bool.false_eq_true, Bool.not_true, Bool.not_false, Nat.reduceAdd, Nat.zero_add, reduceIte, q]) (by
    show eLow h.length [some (.ref h.length), none, none, none] = false
    simp [eLow_some, dLow])
theorem all_loop : ∀ (wss : List (List Str)) (cur : List (List Str)) (h : Hs) (k : Nat), Cl h → h[k]? = some (.lst (cur.map rwD)) → (∀ ws ∈ wss, ws.length ≤ 5) → cur.length * 5 ^ wss.length ≤ 100000 → (∀ x ∈ cur, x.length + wss.length ≤ 1000) →
    ∃ k' r, forL (gName 1) b1_all_rules (wss.map rwD) [some (.ref k), none, none, none] h = .nx [some (.ref k'), none, none, none] (h ++ r) ∧ (h ++ r)[k']? = some (.lst ((wss.foldl extW cur).map rwD))
  | [], cur, h, k, hc, hk, _, _, _ => ⟨k, [], by rw [List.append_nil]; rfl, by rw [List.append_nil]; exact hk⟩
  | ws :: wss, cur, h, k, hc, hk, h5, hn, hl => by
    have w5 := h5 ws List.mem_cons_self
    have p1 : 1 ≤ 5 ^ wss.length := Nat.one_le_pow _ _ (by decide)
    rw [List.length_cons, Nat.pow_succ, Nat.mul_comm (5 ^ _) 5, ← Nat.mul_assoc] at hn
    have n5 : cur.length * 5 ≤ 100000 := Nat.le_trans (Nat.le_mul_of_pos_right _ p1) hn
    have st := all_step hc hk w5 n5 (fun x hx => by have := hl x hx; omega)
    rw [List.map_cons, forL_cons (e1 := [some (.ref k), some (rwD ws), none, none]) (h1 := h) rfl st]
    have hc2 : Cl (h ++ [.lst ((extW cur ws).map rwD)]) := hc.add (rws_oLow _)
    obtain ⟨k', r, e1, e2⟩ := all_loop wss (extW cur ws) (h ++ [.lst ((extW cur ws).map rwD)]) h.length hc2 app_get0 (fun w hw => h5 w (List.mem_cons_of_mem _ hw))
      (Nat.le_trans (Nat.mul_le_mul_right _ (extW_len w5 cur)) hn) (fun y hy => by
        obtain ⟨x, hx, w, _, rfl⟩ := extW_mem hy
        have := hl x hx
        simp only [List.length_append, List.length_cons, List.length_nil] at this ⊢
        omega)
    refine ⟨k', [.lst ((extW cur ws).map rwD)] ++ r, ?_, ?_⟩
    · rw [e1, List.append_assoc]
    · rw [List.append_assoc] at e2; exact e2
theorem all_rules_ok (hc : Cl h) : f_all_rules [] h = .ok (.tup (rules.map Rule.d)) h := by
  have hc1 : Cl (h ++ [.lst [.tup []]]) := hc.add (by rfl)
  obtain ⟨k', r, e1, e2⟩ := all_loop chS [[]] (h ++ [.lst [.tup []]]) h.length hc1 app_get0 (by decide) (by decide) (by decide)
  have e3 : (chS.foldl extW [[]]).map rwD = rules.map Rule.d := by rw [rules_ext, List.map_map]; rfl
  rw [e3] at e2
  refine mFn_ret (h1 := h) (r := [.lst [.tup []]] ++ r) ?_ rfl hc ?_
  · show m_all_rules [none, none, none, none] h = _
    have l1 : l1_all_rules [some (.ref h.length), none, none, none] (h ++ [.lst [.tup []]]) = .nx [some (.ref k'), none, none, none] (h ++ [.lst [.tup []]] ++ r) := by
      unfold l1_all_rules
      rw [for_tupL (xs := chS.map rwD) rfl]
      exact e1
    have v1 : vTup [] h = some (.tup [], h) := vTup_ok (by decide)
    have v2 : vLst [.tup []] h = some (.ref h.length, h ++ [.lst [.tup []]]) := vLst_ok (by decide)
    simp only [m_all_rules, sSeq, sSet, sRet, sRetN, sIf, sPass, sExpr, sPar2, sAsg, tsB, tNotM, tAndM, tOrM, eAndM, eOrM, eNotM, eIfM, eOp1, eOp2, eOpN, eCall, DS.guard, aCons, aNil, eVar, eC, bind_ok, lft_some, ofR_ok, eIsi, Option.map_some, List.length_cons, List.length_nil, List.getElem?_cons_zero, List.getElem?_cons_succ, List.set_cons_zero, List.set_cons_succ, if_true, if_false, Bool.false_eq_true, Bool.not_true, Bool.not_false, Nat.reduceAdd, Nat.zero_add, reduceIte, v1, v2, l1, tuple_ref e2]
    rw [List.append_assoc]
  · show dLows _ _ = true
    rw [dLows_of, List.all_map]; exact List.all_eq_true.mpr fun r _ => rfl
end K03

set_option Elab.async false
set_option linter.all false
set_option maxRecDepth 100000
set_option maxHeartbeats 4000000
/-! RLD: a rule drawn with things behind the state; a rule that is one. -/
namespace DS
open PySem
theorem all_snoc {t : Hs} {o : O} {n : Nat} (ht : t.all (oLow n) = true) (ho : oLow n o = true) : (t ++ [o]).all (oLow n) = true := by
  rw [List.all_append, ht, List.all_cons, ho]; rfl
theorem hp_len (s : S) : s.hp.length = 4 := rfl
/-- one of some, drawn -/
theorem pick_eq {α : Type} {s : S} {t : Hs} {A : MA} {env : En} {n : Int} (xs : List α) (f : α → D) (hs : s.ok 1) (ht : t.all (oLow 0) = true) (hf : ∀ x, dLow 0 (f x) = true) (hn : (xs.length : Int) = n) (h0 : 0 < xs.length) (h1 : xs.length ≤ 1000) (hA : A env (s.hp ++ t) = .ok (xs.map f) (s.hp ++ t)) (he : env[0]? = some (some (.ref 3))) :
    ∃ x ∈ xs, eOp2 vIx (eOpN vLst A) (eCall 2 dDraw (aCons (eVar 0) (aCons (eC (.int n)) aNil))) env (s.hp ++ t) = .ok (f x) ((s.next n).hp ++ (t ++ [.lst (xs.map f)])) ∧ (t ++ [O.lst (xs.map f)]).all (oLow 0) = true := by
  subst hn
  have v0 := s.val_lo (m := (xs.length : Int)) (by omega)
  have v1 := s.val_hi (m := (xs.length : Int)) (by omega)
  have hv : (s.val xs.length).toNat < xs.length := by omega
  have lo : oLow 0 (.lst (xs.map f)) = true := by
    show dLows 0 _ = true
    rw [dLows_of, List.all_map]; exact List.all_eq_true.mpr fun x _ => hf x
  have ta := all_snoc ht lo
  have hc : Cl (s.hp ++ (t ++ [.lst (xs.map f)])) := (S.cl0 s).app0 ta
  have dr := draw_eq (m := (xs.length : Int)) hs hc (by omega) (by omega)
  refine ⟨xs[(s.val xs.length).toNat], List.getElem_mem hv, ?_, ta⟩
  have vl := vLst_hp (s := s) (r := t) (ds := xs.map f) (by rw [List.length_map]; omega)
  have gx : ((s.next xs.length).hp ++ (t ++ [.lst (xs.map f)]))[4 + t.length]? = some (.lst (xs.map f)) := by
    rw [List.getElem?_append_right (by rw [hp_len]; omega), hp_len, show 4 + t.length - 4 = t.length by omega, List.getElem?_append_right (Nat.le_refl _), Nat.sub_self]; rfl
  have ix := ix_refI (n := 4 + t.length) (d := f xs[(s.val xs.length).toNat]) gx v0 (by rw [List.getElem?_map, List.getElem?_eq_getElem hv]; rfl)
  unfold eOp2 eOpN eCall eVar aCons aNil eC
  simp only [hA, bind_ok, vl, lft_some, he, DS.guard, List.length_cons, List.length_nil, Nat.zero_add, Nat.reduceAdd, if_true, dr, ix]
theorem par2_on {i j : Nat} {a b : ME} {env : En} {h h1 h2 : Hs} {x y : D} (ha : a env h = .ok x h1) (hb : b env h1 = .ok y h2) : sPar2 i j (aCons a (aCons b aNil)) env h = .nx ((env.set i (some x)).set j (some y)) h2 := by
  unfold sPar2
  have e : aCons a (aCons b aNil) env h = .ok [x, y] h2 := by
    simp only [aCons, aNil, ha, hb, bind_ok]
  rw [e]
  rfl
theorem pick_eqT {α : Type} {s : S} {T u : Hs} {A : MA} {env : En} {n : Int} (xs : List α) (f : α → D) (hs : s.ok 1) (ht : (T ++ u).all (oLow 0) = true) (hf : ∀ x, dLow 0 (f x) = true) (hn : (xs.length : Int) = n) (h0 : 0 < xs.length) (h1 : xs.length ≤ 1000) (hA : A env (s.hp ++ (T ++ u)) = .ok (xs.map f) (s.hp ++ (T ++ u))) (he : env[0]? = some (some (.ref 3))) :
    ∃ x ∈ xs, eOp2 vIx (eOpN vLst A) (eCall 2 dDraw (aCons (eVar 0) (aCons (eC (.int n)) aNil))) env (s.hp ++ (T ++ u)) = .ok (f x) ((s.next n).hp ++ (T ++ (u ++ [.lst (xs.map f)]))) ∧ (T ++ (u ++ [O.lst (xs.map f)])).all (oLow 0) = true := by
  obtain ⟨x, hx, e, l⟩ := pick_eq (t := T ++ u) xs f hs ht hf hn h0 h1 hA he
  rw [List.append_assoc] at e l
  exact ⟨x, hx, e, l⟩
theorem sq_nx {s t : MS} {env e1 : En} {h h1 : Hs} (hs : s env h = .nx e1 h1) : sSeq s t env h = t e1 h1 := by unfold sSeq; rw [hs]
theorem mviter_enum {xs : List D} {e : ME} {env : En} {h h1 : Hs} (he : e env h = .ok (.tup xs) h1) : iEnum e env h = .ok (.enum (.st xs)) h1 := by
  unfold iEnum
  rw [he]
  rfl
end DS
namespace K03
open DS PySem
variable {h t u v : Hs} {m i b : Nat} {r : Rule}
theorem nr_body {i : Int} {s : Str} {a : D} (hc : Cl h) (ha : dLow h.length a = true) (hn : (vIx c_CHOICES (.int i) h).bind (fun y => vNotIn (.str s) y.1 y.2) = some (.bl false, h)) : On (b1_need_rule [some a, some (.int i), some (.str s)] h) [some a, none, none] h := by
  left
  have is1 : isiD .str (.str s) h = some true := rfl
  unfold b1_need_rule
  refine tidy_nx0 (e1 := [some a, some (.int i), some (.str s)]) ?_ rfl hc (by show eLow h.length [some a, none, none] = true; simp only [eLow_some, eLow_none, eLow_nil, dLow, List.length_append, List.length_cons, List.length_nil, prog_low, acc_low, kd_low, spot_low, ints_low, Bool.true_and, Bool.and_true, Bool.and_eq_true, decide_eq_true_eq, true_and, and_true, ha])
  cases q : vIx c_CHOICES (.int i) h with
  | none => rw [q] at hn; cases hn
  | some y =>
    obtain ⟨y, h'⟩ := y
    rw [q] at hn
    have hn2 : vNotIn (.str s) y h' = some (.bl false, h) := hn
    simp only [sSeq, sSet, sRet, sRetN, sIf, sPass, sExpr, sPar2, sAsg, tsB, tNotM, tAndM, tOrM, eAndM, eOrM, eNotM, eIfM, eOp1, eOp2, eOpN, eCall, DS.guard, aCons, aNil, eVar, eC, bind_ok, lft_some, ofR_ok, eIsi, Option.map_some, List.length_cons, List.length_nil, List.getElem?_cons_zero, List.getElem?_cons_succ, List.set_cons_zero, List.set_cons_succ, if_true, if_false, Bool.false_eq_true, Bool.not_true, Bool.not_false, Nat.reduceAdd, Nat.zero_add, reduceIte, is1, q, hn2]
theorem rule_low {n : Nat} : dLow n r.d = true := rfl
theorem need_rule_ok (hc : Cl h) : f_need_rule [r.d] h = .ok r.d h := by
  refine mFn_ret0 hc ?_ rule_low
  show m_need_rule [some r.d, none, none] h = _
  have l1 : l1_need_rule [some r.d, none, none] h = .nx [some r.d, none, none] h := by
    unfold l1_need_rule
    rw [for_enumL (mviter_enum (xs := [.str r.run.s, .str r.hand.s, .str r.look.s, .str r.spare.s, .str r.again.s, .str r.back.s, .str r.go.s]) rfl)]
    show forL _ _ [.tup [.int 0, .str r.run.s], .tup [.int 1, .str r.hand.s], .tup [.int 2, .str r.look.s], .tup [.int 3, .str r.spare.s], .tup [.int 4, .str r.again.s], .tup [.int 5, .str r.back.s], .tup [.int 6, .str r.go.s]] _ _ = _
    rw [forL_on (e1 := [some r.d, some (.int 0), some (.str r.run.s)]) (h1 := h) rfl (nr_body hc rule_low (by cases r.run <;> kernel_rfl)),
      forL_on (e1 := [some r.d, some (.int 1), some (.str r.hand.s)]) (h1 := h) rfl (nr_body hc rule_low (by cases r.hand <;> kernel_rfl)),
      forL_on (e1 := [some r.d, some (.int 2), some (.str r.look.s)]) (h1 := h) rfl (nr_body hc rule_low (by cases r.look <;> kernel_rfl)),
      forL_on (e1 := [some r.d, some (.int 3), some (.str r.spare.s)]) (h1 := h) rfl (nr_body hc rule_low (by cases r.spare <;> kernel_rfl)),
      forL_on (e1 := [some r.d, some (.int 4), some (.str r.again.s)]) (h1 := h) rfl (nr_body hc rule_low (by cases r.again <;> kernel_rfl)),
      forL_on (e1 := [some r.d, some (.int 5), some (.str r.back.s)]) (h1 := h) rfl (nr_body hc rule_low (by cases r.back <;> kernel_rfl)),
      forL_on (e1 := [some r.d, some (.int 6), some (.str r.go.s)]) (h1 := h) rfl (nr_body hc rule_low (by cases r.go <;> kernel_rfl))]
    rfl
  have is1 : isiD .tup r.d h = some true := rfl
  have ln : vLen [r.d] h = some (.int 7, h) := rfl
  have ln2 : vLen [c_CHOICES] h = some (.int 7, h) := rfl
  have n7 : vNe (.int 7) (.int 7) h = some (.bl false, h) := rfl
  simp only [m_need_rule, sSeq, sSet, sRet, sRetN, sIf, sPass, sExpr, sPar2, sAsg, tsB, tNotM, tAndM, tOrM, eAndM, eOrM, eNotM, eIfM, eOp1, eOp2, eOpN, eCall, DS.guard, aCons, aNil, eVar, eC, bind_ok, lft_some, ofR_ok, eIsi, Option.map_some, List.length_cons, List.length_nil, List.getElem?_cons_zero, List.getElem?_cons_succ, List.set_cons_zero, List.set_cons_succ, if_true, if_false, Bool.false_eq_true, Bool.not_true, Bool.not_false, Nat.reduceAdd, Nat.zero_add, reduceIte, is1, ln, ln2, n7, l1]
theorem law_rule_okT {s : S} {N : Nat} {T : Hs} (hs : s.ok (N + 7)) (hT : T.all (oLow 0) = true) : ∃ (r : Rule) (s' : S), s'.ok N ∧ f__law_rule [.ref 3] (s.hp ++ T) = .ok r.d (s'.hp ++ T) := by
  have a0 : (T ++ ([] : Hs)).all (oLow 0) = true := by rw [List.append_nil]; exact hT
  obtain ⟨x1, _, p1, a1⟩ := pick_eqT (s := s) (T := T) (u := []) (A := (aCons (eC (.str "any")) (aCons (eC (.str "any")) (aCons (eC (.str "guess")) (aCons (eC (.str "known")) aNil))))) (env := [some (.ref 3), none, none, none, none, none, none, none]) (n := 4) [WRun.any, WRun.any, WRun.guess, WRun.known] (fun x => .str x.s) (hs.mono (by omega)) a0 (fun _ => rfl) rfl (by decide) (by decide) rfl rfl
  have o1 := S.next_ok (n := N + 6) (hs.mono (by omega)) 4
  generalize s.next 4 = s1 at *
  generalize ([] : Hs) ++ [O.lst ([WRun.any, WRun.any, WRun.guess, WRun.known].map fun x => D.str x.s)] = t1 at *
  obtain ⟨x2, _, p2, a2⟩ := pick_eqT (s := s1) (T := T) (u := t1) (A := (aCons (eC (.str "cells")) (aCons (eC (.str "wait")) (aCons (eC (.str "store")) aNil)))) (env := [some (.ref 3), none, none, none, none, none, none, none]) (n := 3) [WHand.cells, WHand.wait, WHand.store] (fun x => .str x.s) (o1.mono (by omega)) a1 (fun _ => rfl) rfl (by decide) (by decide) rfl rfl
  have o2 := S.next_ok (n := N + 5) (o1.mono (by omega)) 3
  generalize s1.next 3 = s2 at *
  generalize t1 ++ [O.lst ([WHand.cells, WHand.wait, WHand.store].map fun x => D.str x.s)] = t2 at *
  obtain ⟨x3, _, p3, a3⟩ := pick_eqT (s := s2) (T := T) (u := t2) (A := (aCons (eC (.str "cells")) (aCons (eC (.str "word")) (aCons (eC (.str "sign")) (aCons (eC (.str "all")) (aCons (eC (.str "cells")) (aCons (eC (.str "none")) aNil))))))) (env := [some (.ref 3), some (.str x1.s), some (.str x2.s), none, none, none, none, none]) (n := 6) [WLook.cells, WLook.word, WLook.sign, WLook.all, WLook.cells, WLook.none] (fun x => .str x.s) (o2.mono (by omega)) a2 (fun _ => rfl) rfl (by decide) (by decide) rfl rfl
  have o3 := S.next_ok (n := N + 4) (o2.mono (by omega)) 6
  generalize s2.next 6 = s3 at *
  generalize t2 ++ [O.lst ([WLook.cells, WLook.word, WLook.sign, WLook.all, WLook.cells, WLook.none].map fun x => D.str x.s)] = t3 at *
  obtain ⟨x4, _, p4, a4⟩ := pick_eqT (s := s3) (T := T) (u := t3) (A := (aCons (eC (.str "never")) (aCons (eC (.str "each")) (aCons (eC (.str "some")) aNil)))) (env := [some (.ref 3), some (.str x1.s), some (.str x2.s), some (.str x3.s), none, none, none, none]) (n := 3) [WSpare.never, WSpare.each, WSpare.some] (fun x => .str x.s) (o3.mono (by omega)) a3 (fun _ => rfl) rfl (by decide) (by decide) rfl rfl
  have o4 := S.next_ok (n := N + 3) (o3.mono (by omega)) 3
  generalize s3.next 3 = s4 at *
  generalize t3 ++ [O.lst ([WSpare.never, WSpare.each, WSpare.some].map fun x => D.str x.s)] = t4 at *
  obtain ⟨x5, _, p5, a5⟩ := pick_eqT (s := s4) (T := T) (u := t4) (A := (aCons (eC (.str "one")) (aCons (eC (.str "hanging")) (aCons (eC (.str "behind")) (aCons (eC (.str "all")) (aCons (eC (.str "hanging")) aNil)))))) (env := [some (.ref 3), some (.str x1.s), some (.str x2.s), some (.str x3.s), some (.str x4.s), none, none, none]) (n := 5) [WAgain.one, WAgain.hanging, WAgain.behind, WAgain.all, WAgain.hanging] (fun x => .str x.s) (o4.mono (by omega)) a4 (fun _ => rfl) rfl (by decide) (by decide) rfl rfl
  have o5 := S.next_ok (n := N + 2) (o4.mono (by omega)) 5
  generalize s4.next 5 = s5 at *
  generalize t4 ++ [O.lst ([WAgain.one, WAgain.hanging, WAgain.behind, WAgain.all, WAgain.hanging].map fun x => D.str x.s)] = t5 at *
  obtain ⟨x6, _, p6, a6⟩ := pick_eqT (s := s5) (T := T) (u := t5) (A := (aCons (eC (.str "took")) (aCons (eC (.str "none")) aNil))) (env := [some (.ref 3), some (.str x1.s), some (.str x2.s), some (.str x3.s), some (.str x4.s), some (.str x5.s), none, none]) (n := 2) [WBack.took, WBack.none] (fun x => .str x.s) (o5.mono (by omega)) a5 (fun _ => rfl) rfl (by decide) (by decide) rfl rfl
  have o6 := S.next_ok (n := N + 1) (o5.mono (by omega)) 2
  generalize s5.next 2 = s6 at *
  generalize t5 ++ [O.lst ([WBack.took, WBack.none].map fun x => D.str x.s)] = t6 at *
  obtain ⟨x7, _, p7, a7⟩ := pick_eqT (s := s6) (T := T) (u := t6) (A := (aCons (eC (.str "eldest")) (aCons (eC (.str "known")) (aCons (eC (.str "ran")) aNil)))) (env := [some (.ref 3), some (.str x1.s), some (.str x2.s), some (.str x3.s), some (.str x4.s), some (.str x5.s), none, none]) (n := 3) [WGo.eldest, WGo.known, WGo.ran] (fun x => .str x.s) (o6.mono (by omega)) a6 (fun _ => rfl) rfl (by decide) (by decide) rfl rfl
  have o7 := S.next_ok (n := N + 0) (o6.mono (by omega)) 3
  generalize s6.next 3 = s7 at *
  generalize t6 ++ [O.lst ([WGo.eldest, WGo.known, WGo.ran].map fun x => D.str x.s)] = t7 at *
  refine ⟨⟨x1, x2, x3, x4, x5, x6, x7⟩, s7, o7, ?_⟩
  refine mFn_ret (h1 := s7.hp ++ T) (r := t7) ?_ rfl ((S.cl0 s7).app0 hT) rfl
  show m__law_rule [some (.ref 3), none, none, none, none, none, none, none] (s.hp ++ T) = _
  rw [List.append_assoc, ← List.append_nil T]
  have d0 : f__law_draw = dDraw := rfl
  unfold m__law_rule
  rw [d0]
  rw [sq_nx (e1 := [some (.ref 3), some (.str x1.s), some (.str x2.s), none, none, none, none, none]) (h1 := s2.hp ++ (T ++ t2)) (par2_on p1 p2)]
  rw [sq_nx (e1 := [some (.ref 3), some (.str x1.s), some (.str x2.s), some (.str x3.s), none, none, none, none]) (h1 := s3.hp ++ (T ++ t3)) (by unfold sSet; simp only [p3, ofR_ok]; rfl)]
  rw [sq_nx (e1 := [some (.ref 3), some (.str x1.s), some (.str x2.s), some (.str x3.s), some (.str x4.s), none, none, none]) (h1 := s4.hp ++ (T ++ t4)) (by unfold sSet; simp only [p4, ofR_ok]; rfl)]
  rw [sq_nx (e1 := [some (.ref 3), some (.str x1.s), some (.str x2.s), some (.str x3.s), some (.str x4.s), some (.str x5.s), none, none]) (h1 := s5.hp ++ (T ++ t5)) (by unfold sSet; simp only [p5, ofR_ok]; rfl)]
  rw [sq_nx (e1 := [some (.ref 3), some (.str x1.s), some (.str x2.s), some (.str x3.s), some (.str x4.s), some (.str x5.s), some (.str x6.s), some (.str x7.s)]) (h1 := s7.hp ++ (T ++ t7)) (par2_on p6 p7)]
  rw [List.append_nil]
  rfl
end K03

set_option Elab.async false
set_option linter.all false
set_option maxRecDepth 100000
set_option maxHeartbeats 4000000
/-! LAWV03: the choices by hand, a drawn rule stands where its words tell. -/
namespace DS
open PySem
theorem for_zipT {mi : MI} {g : MG} {body : MS} {e : En} {h h1 : Hs} {as bs : List D} (hm : mi e h = .ok (.zip (.st as) (.st bs)) h1) : sFor mi g body e h = forL g body ((as.zip bs).map fun x => .tup [x.1, x.2]) e h1 := by
  refine for_L _ hm ?_ ?_
  · show min as.length bs.length = _
    rw [List.length_map, List.length_zip]
  · intro i _ _
    rw [List.getElem?_map, List.zip, List.getElem?_zipWith]
    show (match some as[i]?, some bs[i]? with | some (some x), some (some y) => some (some (D.tup [x, y])) | some _, some _ => some none | _, _ => none) = _
    cases as[i]? <;> cases bs[i]? <;> rfl
/-- keys that are apart -/
theorem mrg_nodup : ∀ (ps : List (NestedKey × D × D)) (acc : List (D × D)), (ps.map (·.1)).Nodup → (∀ p ∈ ps, nkD p.2.1 = some p.1) → (∀ p ∈ ps, getN acc p.1 = none) → ps.foldl (fun acc p => setN acc p.1 p.2.1 p.2.2) acc = acc ++ ps.map (·.2)
  | [], acc, _, _, _ => by simp
  | p :: r, acc, hn, hk, hg => by
    rw [List.map_cons, List.nodup_cons] at hn
    have g0 := hg p List.mem_cons_self
    have e : setN acc p.1 p.2.1 p.2.2 = acc ++ [p.2] := by
      unfold setN
      rw [g0]; rfl
    rw [List.foldl_cons, e, mrg_nodup r _ hn.2 (fun q hq => hk q (List.mem_cons_of_mem _ hq)) (fun q hq => ?_), List.map_cons, List.append_assoc]
    · rfl
    · have g1 := hg q (List.mem_cons_of_mem _ hq)
      unfold getN at g1 ⊢
      rw [Option.map_eq_none_iff] at g1 ⊢
      rw [List.find?_append, g1, Option.none_or, List.find?_cons_of_neg, List.find?_nil]
      have k0 := hk p List.mem_cons_self
      have ne : p.1 ≠ q.1 := fun z => hn.1 (by rw [z]; exact List.mem_map_of_mem hq)
      simp only [decide_eq_true_eq, k0]
      exact fun z => ne (Option.some.inj z)
def keyR (r : Rule) : NestedKey := .tup (r.w.map .text)
def pairR (r : Rule) : D := .tup [r.d, .int 0]
theorem prs_rules : ∀ xs : List Rule, prsN (xs.map pairR) = some (xs.map fun r => (keyR r, r.d, D.int 0))
  | [] => rfl
  | r :: xs => by
    have k : keyN r.d = some (keyR r) := by rfl
    show (pairD (pairR r)).bind _ = _
    have p : pairD (pairR r) = some (r.d, .int 0) := rfl
    rw [p]
    simp only [Option.bind_some, k, prs_rules xs, Option.map_some, List.map_cons]
def rankW (ws : List Str) : Nat := (chS.zip ws).foldl (fun a p => a * p.1.length + (idxS p.2 p.1 0).getD 0) 0
theorem ranks : rules.map (fun r => rankW r.w) = List.range 3240 := by decide +kernel
theorem map_text {xs ys : List Str} (h : xs.map NestedKey.text = ys.map NestedKey.text) : xs = ys := by
  induction xs generalizing ys with
  | nil => cases ys with
    | nil => rfl
    | cons _ _ => cases h
  | cons x xs ih => cases ys with
    | nil => cases h
    | cons y ys =>
      rw [List.map_cons, List.map_cons] at h
      injection h with a b
      injection a with a
      rw [a, ih b]
theorem keyR_w {a b : Rule} (h : keyR a = keyR b) : a.w = b.w := by
  unfold keyR at h
  injection h with h
  exact map_text h
theorem keys_nodup : (rules.map keyR).Nodup := by
  have h : (rules.map (fun r => rankW r.w)).Nodup := by rw [ranks]; exact List.nodup_range
  unfold List.Nodup at h ⊢
  rw [List.pairwise_map] at h ⊢
  exact h.imp fun {a b} q z => q (by show rankW a.w = rankW b.w; rw [keyR_w z])
theorem rank_at (r : Rule) : rules[rankW r.w]? = some r := by
  obtain ⟨i, hi, e⟩ := List.getElem_of_mem (mem_rules r)
  have h : (rules.map (fun r => rankW r.w))[i]? = (List.range 3240)[i]? := by rw [ranks]
  rw [List.getElem?_map, List.getElem?_eq_getElem hi, e, List.getElem?_range (by rw [← rules_len]; exact hi)] at h
  have h : rankW r.w = i := Option.some.inj h
  rw [h, List.getElem?_eq_getElem hi, e]
theorem dict_len {n : Nat} {h : Hs} (hn : h[n]? = some (.lst (rules.map pairR))) : vDict [.ref n] h = some (.ref h.length, h ++ [.dtt (rules.map fun r => (r.d, D.int 0))]) := by
  have l : listOf1 (.ref n) h = some (rules.map pairR) := by
    show (h[n]?).bind lsO = _
    rw [hn]; rfl
  unfold vDict
  simp only [l, prs_rules]
  unfold mrgN
  rw [mrg_nodup _ [] (by rw [List.map_map]; exact keys_nodup) (fun p hp => by
    obtain ⟨r, _, rfl⟩ := List.mem_map.mp hp
    rfl) (fun _ _ => rfl), List.nil_append, List.map_map]
  rfl
end DS
namespace K03
open DS PySem
variable {h t u v : Hs} {m i b : Nat} {r : Rule}
theorem rule_ok (r : Rule) : okN 29 r.d = true := by
  have : ∀ x : Str, PyData.strOk x = true → okN 28 (.str x) = true := fun _ h => h
  show (_ && (_ && (_ && (_ && (_ && (_ && (_ && true))))))) = true
  have k1 : okN 28 (.str r.run.s) = true := by cases r.run <;> decide +kernel
  have k2 : okN 28 (.str r.hand.s) = true := by cases r.hand <;> decide +kernel
  have k3 : okN 28 (.str r.look.s) = true := by cases r.look <;> decide +kernel
  have k4 : okN 28 (.str r.spare.s) = true := by cases r.spare <;> decide +kernel
  have k5 : okN 28 (.str r.again.s) = true := by cases r.again <;> decide +kernel
  have k6 : okN 28 (.str r.back.s) = true := by cases r.back <;> decide +kernel
  have k7 : okN 28 (.str r.go.s) = true := by cases r.go <;> decide +kernel
  rw [k1, k2, k3, k4, k5, k6, k7]
  rfl
theorem begin_def : f__law_begin = dBegin := rfl
def T0 : Hs := chS.map fun ws => .otp (wsD ws)
def T1 : Hs := T0 ++ [.lst (rules.map pairR), .dtt (rules.map fun r => (r.d, D.int 0))]
def dueD : D := .tup ((chS.zipIdx 4).map fun p => .ref p.2)
def rulesD : D := .tup (rules.map Rule.d)
def firsts : List D := (chS.zipIdx 4).map fun p => .str (p.1.headD "")
def lasts : List D := (chS.zipIdx 4).map fun p => .str (p.1.getLastD "")
abbrev firR : Rule := ⟨.any, .cells, .cells, .never, .one, .took, .eldest⟩
abbrev secR : Rule := ⟨.any, .cells, .cells, .never, .one, .took, .known⟩
abbrev lasR : Rule := ⟨.known, .store, .none, .some, .all, .none, .ran⟩
theorem pairs_low {n : Nat} : oLow n (.lst (rules.map pairR)) = true := by
  show dLows n _ = true
  rw [dLows_of, List.all_map]; exact List.all_eq_true.mpr fun _ _ => rfl
theorem dtt_low {n : Nat} : oLow n (.dtt (rules.map fun r => (r.d, D.int 0))) = true := by
  show (dLows n ((rules.map fun r => (r.d, D.int 0)).map (·.1)) && dLows n ((rules.map fun r => (r.d, D.int 0)).map (·.2))) = true
  rw [dLows_of, dLows_of, List.map_map, List.map_map, List.all_map, List.all_map, Bool.and_eq_true]
  exact ⟨List.all_eq_true.mpr fun _ _ => rfl, List.all_eq_true.mpr fun _ _ => rfl⟩
theorem T0_low : T0.all (oLow 0) = true := by rfl
theorem T1_low : T1.all (oLow 0) = true := by
  unfold T1
  rw [List.all_append, T0_low, List.all_cons, List.all_cons, pairs_low, dtt_low]; rfl
theorem rules_low {n : Nat} : dLow n rulesD = true := by
  show dLows n _ = true
  rw [dLows_of, List.all_map]; exact List.all_eq_true.mpr fun _ _ => rfl
theorem s_low (ns : List Int) (n : Nat) : dLow n (.sl (ns.map .int)) = true := by
  show dLows n (ns.map .int) = true
  rw [dLows_of, List.all_map]
  exact List.all_eq_true.mpr fun _ _ => rfl
abbrev LE (ns : List Int) (x2 x3 x4 x5 x6 x7 x8 x9 x10 : Option D) : En := [some (.sl (ns.map .int)), some (.ref 3), x2, x3, x4, x5, x6, x7, x8, x9, x10, none]
theorem tix_ok {H : Hs} {n j : Nat} {ws : List Str} {w : Str} (hn : H[n]? = some (.otp (wsD ws))) (hj : idxS w ws 0 = some j) : isTO (.ref n) H = true ∧ vTIndex (plain1 H (.ref n)) [.str w] H = some (.int (j : Nat), H) ∧ vPlain (.ref n) H = some (.tup (wsD ws), H) := by
  have p : plain1 H (.ref n) = .tup (wsD ws) := by simp only [plain1, hn]
  have q : (wsD ws).map (plain1 H) = wsD ws := by
    unfold wsD
    rw [List.map_map]; rfl
  have st : ∀ ws : List Str, strsOf (wsD ws) = some ws := by
    intro ws
    induction ws with
    | nil => rfl
    | cons w r ih => show (strsOf (wsD r)).map _ = _; rw [ih]; rfl
  refine ⟨by simp only [isTO, hn], ?_, ?_⟩
  · rw [p]
    simp only [vTIndex, st, Option.bind_some, hj]
  · unfold vPlain
    rw [p]
    simp only [q]
abbrev stp (st : Nat × Option D) (x : (List Str × Nat) × Str) : Nat × Option D := (st.1 * x.1.1.length + (idxS x.2 x.1.1 0).getD 0, some (.ref x.1.2))
theorem in_words (r : Rule) : ∀ x ∈ (chS.zipIdx 4).zip r.w, (∃ j, idxS x.2 x.1.1 0 = some j ∧ j < 5) ∧ x.1.1.length ≤ 5 ∧ x.1 ∈ chS.zipIdx 4 := by
  intro x hx
  have hm : x.1 ∈ chS.zipIdx 4 := (List.of_mem_zip (a := x.1) (b := x.2) hx).1
  refine ⟨?_, ?_, hm⟩
  · have : ∀ x ∈ (chS.zipIdx 4).zip r.w, ((idxS x.2 x.1.1 0).any fun j => decide (j < 5)) = true := by
      obtain ⟨a, b, c, d, e, f, g⟩ := r
      rw [← List.all_eq_true]
      have k : ∀ (x : (List Str × Nat) × Str) (l : List ((List Str × Nat) × Str)) (p : (List Str × Nat) × Str → Bool), p x = true → l.all p = true → (x :: l).all p = true := fun x l p h1 h2 => by rw [List.all_cons, h1, h2]; rfl
      refine k _ _ _ (by cases a <;> kernel_rfl) (k _ _ _ (by cases b <;> kernel_rfl) (k _ _ _ (by cases c <;> kernel_rfl) (k _ _ _ (by cases d <;> kernel_rfl) (k _ _ _ (by cases e <;> kernel_rfl) (k _ _ _ (by cases f <;> kernel_rfl) (k _ _ _ (by cases g <;> kernel_rfl) rfl))))))
    have := this x hx
    rw [Option.any_eq_true] at this
    obtain ⟨j, h1, h2⟩ := this
    exact ⟨j, h1, of_decide_eq_true h2⟩
  · have : ∀ y ∈ chS.zipIdx 4, y.1.length ≤ 5 := by decide
    exact this _ hm
theorem T1_at (s : S) : ∀ p ∈ chS.zipIdx 4, (s.hp ++ T1)[p.2]? = some (.otp (wsD p.1)) := by
  have k : ∀ (x : List Str × Nat) (l : List (List Str × Nat)) (p : List Str × Nat → Prop), p x → (∀ y ∈ l, p y) → ∀ y ∈ x :: l, p y := fun x l p h1 h2 y hy => by
    rcases List.mem_cons.mp hy with rfl | hy
    · exact h1
    · exact h2 y hy
  exact k _ _ _ rfl (k _ _ _ rfl (k _ _ _ rfl (k _ _ _ rfl (k _ _ _ rfl (k _ _ _ rfl (k _ _ _ rfl (fun _ h => by cases h)))))))
theorem Tlen (s : S) : (s.hp ++ T1).length = 13 := rfl
theorem inner_ok {ns : List Int} {s : S} {k x7 : Option D} (r : Rule) (hk : ∀ d, k = some d → dLow 13 d = true) : l1_law (LE ns (some dueD) (some rulesD) k (some r.d) (some (.int 0)) x7 none none none) (s.hp ++ T1) = .nx (LE ns (some dueD) (some rulesD) k (some r.d) (some (.int (rankW r.w : Nat))) (some (.ref 10)) none none none) (s.hp ++ T1) := by
  have hc : Cl (s.hp ++ T1) := (S.cl0 s).app0 T1_low
  unfold l1_law
  rw [for_zipT (as := (chS.zipIdx 4).map fun p => .ref p.2) (bs := wsD r.w) rfl]
  have hz : ((((chS.zipIdx 4).map fun p => D.ref p.2).zip (wsD r.w)).map fun x => D.tup [x.1, x.2]) = ((chS.zipIdx 4).zip r.w).map fun x => .tup [.ref x.1.2, .str x.2] := rfl
  rw [hz]
  have key := (forL_foldC (g := gTup 2 (gCons (gName 7) (gCons (gName 8) gNil))) (body := b1_law) (fun (st : Nat × Option D) => LE ns (some dueD) (some rulesD) k (some r.d) (some (.int (st.1 : Nat))) st.2 none none none) (fun _ => s.hp ++ T1) (fun (x : (List Str × Nat) × Str) => .tup [.ref x.1.2, .str x.2]) stp
    (fun i st => st.1 < 5 ^ i ∧ i ≤ 7) ((chS.zipIdx 4).zip r.w) (0, x7) ⟨Nat.one_pos, Nat.zero_le _⟩ (fun i st x hx ⟨p1, p2⟩ => by
      have hi : i < 7 := (List.getElem?_eq_some_iff.mp hx).1
      obtain ⟨⟨j, hj, j5⟩, l5, hm⟩ := in_words r x (List.mem_of_getElem? hx)
      obtain ⟨g1, g2, g3⟩ := tix_ok (T1_at s _ hm) hj
      have ej : (idxS x.2 x.1.1 0).getD 0 = j := by rw [hj]; rfl
      have pb : 5 ^ i ≤ 5 ^ 6 := Nat.pow_le_pow_right (by decide) (by omega)
      have pb2 : 5 ^ 6 = 15625 := by decide
      refine ⟨⟨?_, by omega⟩, LE ns (some dueD) (some rulesD) k (some r.d) (some (.int (st.1 : Nat))) (some (.ref x.1.2)) (some (.str x.2)) none none, s.hp ++ T1, rfl, ?_⟩
      · show st.1 * x.1.1.length + _ < 5 ^ (i + 1)
        rw [ej, Nat.pow_succ]
        have : st.1 * x.1.1.length ≤ st.1 * 5 := Nat.mul_le_mul_left _ l5
        omega
      · left
        have ml : vMul (.int (st.1 : Nat)) (.int (x.1.1.length : Nat)) (s.hp ++ T1) = some (.int ((st.1 : Nat) * (x.1.1.length : Nat)), s.hp ++ T1) := vMul_ok (mulOk_l (by omega) (by omega))
        have ln : vLen [.tup (wsD x.1.1)] (s.hp ++ T1) = some (.int (x.1.1.length : Nat), s.hp ++ T1) := by
          simp only [vLen, seqOf, wsD_len]
        have ee : ((st.1 : Int) * (x.1.1.length : Int) + (j : Int)) = ((stp st x).1 : Nat) := by
          show _ = ((st.1 * x.1.1.length + (idxS x.2 x.1.1 0).getD 0 : Nat) : Int)
          rw [ej]; omega
        unfold b1_law
        refine tidy_nx0 (e1 := LE ns (some dueD) (some rulesD) k (some r.d) (some (.int ((stp st x).1 : Nat))) (some (.ref x.1.2)) (some (.str x.2)) none none) ?_ rfl hc ?_
        · simp only [sSeq, sSet, sRet, sRetN, sIf, sPass, sExpr, sPar2, sAsg, tsB, tNotM, tAndM, tOrM, eAndM, eOrM, eNotM, eIfM, eOp1, eOp2, eOpN, eCall, DS.guard, aCons, aNil, eVar, eC, bind_ok, lft_some, ofR_ok, eIsi, Option.map_some, List.length_cons, List.length_nil, List.getElem?_cons_zero, List.getElem?_cons_succ, List.set_cons_zero, List.set_cons_succ, if_true, if_false, Bool.false_eq_true, Bool.not_true, Bool.not_false, Nat.reduceAdd, Nat.zero_add, reduceIte, eMethO, g3, ln, ml, g1, g2, vAdd_int, ee]
        · have r2 : x.1.2 < 13 := by
            have : ∀ p ∈ chS.zipIdx 4, p.2 < 13 := by decide
            exact this _ hm
          show eLow 13 (LE ns (some dueD) (some rulesD) k (some r.d) (some (.int ((stp st x).1 : Nat))) (some (.ref x.1.2)) none none none) = true
          have dl : dLow 13 dueD = true := rfl
          have rl : dLow 13 r.d = true := rfl
          have x2 : dLow 13 (.ref x.1.2) = true := by simpa only [dLow, decide_eq_true_eq] using r2
          cases k with
          | none => simp only [eLow_some, eLow_none, eLow_nil, s_low, rules_low, dl, rl, x2]; rfl
          | some d => simp only [eLow_some, eLow_none, eLow_nil, s_low, rules_low, dl, rl, x2, hk d rfl]; rfl)).1
  exact key
theorem body_ok {ns : List Int} {s : S} {N : Nat} {x7 : Option D} {k : Nat} (hs : s.ok (N + 7)) : ∃ s' : S, s'.ok N ∧ b2_law (LE ns (some dueD) (some rulesD) (some (.int k)) none none x7 none none none) (s.hp ++ T1) = .nx (LE ns (some dueD) (some rulesD) none none none (some (.ref 10)) none none none) (s'.hp ++ T1) := by
  obtain ⟨r, s', o', e⟩ := law_rule_okT hs T1_low
  refine ⟨s', o', ?_⟩
  have hc : Cl (s'.hp ++ T1) := (S.cl0 s').app0 T1_low
  have ix : vIx rulesD (.int (rankW r.w : Nat)) (s'.hp ++ T1) = some (r.d, s'.hp ++ T1) := ix_tup (by rw [List.getElem?_map, rank_at]; rfl)
  have ne : vNe r.d r.d (s'.hp ++ T1) = some (.bl false, s'.hp ++ T1) := vNe_same (okN_mono (by decide) (rule_ok r))
  have nr := need_rule_ok (r := r) hc
  have io := inner_ok (ns := ns) (s := s') (k := some (.int k)) (x7 := x7) r (fun d z => by cases z; rfl)
  unfold b2_law
  refine tidy_nx0 (e1 := LE ns (some dueD) (some rulesD) (some (.int k)) (some r.d) (some (.int (rankW r.w : Nat))) (some (.ref 10)) none none none) ?_ rfl hc ?_
  · simp only [sSeq, sSet, sRet, sRetN, sIf, sPass, sExpr, sPar2, sAsg, tsB, tNotM, tAndM, tOrM, eAndM, eOrM, eNotM, eIfM, eOp1, eOp2, eOpN, eCall, DS.guard, aCons, aNil, eVar, eC, bind_ok, lft_some, ofR_ok, eIsi, Option.map_some, List.length_cons, List.length_nil, List.getElem?_cons_zero, List.getElem?_cons_succ, List.set_cons_zero, List.set_cons_succ, if_true, if_false, Bool.false_eq_true, Bool.not_true, Bool.not_false, Nat.reduceAdd, Nat.zero_add, reduceIte, e, io, ix, ne, nr]
  · show eLow 13 (LE ns (some dueD) (some rulesD) none none none (some (.ref 10)) none none none) = true
    have dl : dLow 13 dueD = true := rfl
    have x2 : dLow 13 (.ref 10) = true := rfl
    simp only [eLow_some, eLow_none, eLow_nil, s_low, rules_low, dl, x2]; rfl
theorem r0_ok (X : Hs) : vIx rulesD (.int 0) X = some (firR.d, X) := ix_tup (i := 0) (by rw [List.getElem?_map, show rules[0]? = some firR by kernel_rfl]; rfl)
theorem r1_ok (X : Hs) : vIx rulesD (.int 1) X = some (secR.d, X) := ix_tup (i := 1) (by rw [List.getElem?_map, show rules[1]? = some secR by kernel_rfl]; rfl)
theorem r2_ok (X : Hs) : vIx rulesD (.int (-1)) X = some (lasR.d, X) := by
  unfold vIx rulesD
  simp only [seqOf]
  rw [show L2.atI (rules.map Rule.d) (-1) = some lasR.d by
    unfold L2.atI
    rw [List.length_map, rules_len, show L2.ixN 3240 (-1) = some 3239 by decide, Option.bind_some, List.getElem?_map, show rules[3239]? = some lasR by kernel_rfl]; rfl]
  rfl
theorem hd0 : ∀ p ∈ chS.zipIdx 4, idxS (p.1.headD "") p.1 0 = some 0 ∧ (p.1.map D.str)[0]? = some (.str (p.1.headD "")) ∧ L2.atI (p.1.map D.str) (-1) = some (.str (p.1.getLastD "")) := by
    have k : ∀ (x : List Str × Nat) (l : List (List Str × Nat)) (p : List Str × Nat → Prop), p x → (∀ y ∈ l, p y) → ∀ y ∈ x :: l, p y := fun x l p h1 h2 y hy => by
      rcases List.mem_cons.mp hy with rfl | hy
      · exact h1
      · exact h2 y hy
    have o : ∀ z : List Str × Nat, idxS (z.1.headD "") z.1 0 = some 0 → (z.1.map D.str)[0]? = some (.str (z.1.headD "")) → L2.atI (z.1.map D.str) (-1) = some (.str (z.1.getLastD "")) → idxS (z.1.headD "") z.1 0 = some 0 ∧ (z.1.map D.str)[0]? = some (.str (z.1.headD "")) ∧ L2.atI (z.1.map D.str) (-1) = some (.str (z.1.getLastD "")) := fun z a b c => ⟨a, b, c⟩
    exact k _ _ _ (o _ (by kernel_rfl) (by kernel_rfl) (by kernel_rfl)) (k _ _ _ (o _ (by kernel_rfl) (by kernel_rfl) (by kernel_rfl)) (k _ _ _ (o _ (by kernel_rfl) (by kernel_rfl) (by kernel_rfl)) (k _ _ _ (o _ (by kernel_rfl) (by kernel_rfl) (by kernel_rfl)) (k _ _ _ (o _ (by kernel_rfl) (by kernel_rfl) (by kernel_rfl)) (k _ _ _ (o _ (by kernel_rfl) (by kernel_rfl) (by kernel_rfl)) (k _ _ _ (o _ (by kernel_rfl) (by kernel_rfl) (by kernel_rfl)) (fun _ h => by cases h)))))))
theorem tail_ok {ns : List Int} {H : Hs} (cH : Cl H) (at1 : ∀ p ∈ chS.zipIdx 4, H[p.2]? = some (.otp (wsD p.1))) (Hl : H.length = 13) : ∃ r, (sSeq (sPar2 9 10 (aCons (eOpN vTuple (aCons q3_law aNil)) (aCons (eOpN vTuple (aCons q2_law aNil)) aNil)))
    (sRet (eOp2 vEq (eOpN vLst (aCons (eOp2 vIx (eVar 3) (eC (.int 0))) (aCons (eOp2 vIx (eVar 3) (eC (.int 1))) (aCons (eOp2 vIx (eVar 3) (eOp1 vNeg (eC (.int 1)))) aNil)))) (eOpN vLst (aCons (eVar 9) (aCons (eOp2 vAdd (eSl (eVar 9) oNone (oSome (eC (.int 6)))) (eOpN vTup (aCons (eC (.str "known")) aNil))) (aCons (eVar 10) aNil))))))) (LE ns (some dueD) (some rulesD) none none none (some (.ref 10)) none none none) H = .ret (.bl true) r := by
  have q3 : q3_law (LE ns (some dueD) (some rulesD) none none none (some (.ref 10)) none none none) H = .ok (.ref H.length) (H ++ [.lst firsts]) := by
    unfold q3_law
    rw [comp_tup (chS.zipIdx 4) (fun p => .ref p.2) (fun _ => true) (fun p => .str (p.1.headD "")) rfl (by decide) fun p hp => ⟨[some (.sl (ns.map .int)), some (.ref 3), some dueD, some rulesD, none, none, none, some (.ref p.2), none, none, none, none], rfl, rfl, fun _ => gc_pure ?_ cH rfl⟩, filter_all]
    · rfl
    · obtain ⟨i0, g1, g2⟩ := hd0 p hp
      have g3 := (tix_ok (at1 p hp) i0).2.2
      have x : vIx (.tup (wsD p.1)) (.int 0) H = some (.str (p.1.headD ""), H) := ix_tup (i := 0) g1
      simp only [sSeq, sSet, sRet, sRetN, sIf, sPass, sExpr, sPar2, sAsg, tsB, tNotM, tAndM, tOrM, eAndM, eOrM, eNotM, eIfM, eOp1, eOp2, eOpN, eCall, DS.guard, aCons, aNil, eVar, eC, bind_ok, lft_some, ofR_ok, eIsi, Option.map_some, List.length_cons, List.length_nil, List.getElem?_cons_zero, List.getElem?_cons_succ, List.set_cons_zero, List.set_cons_succ, if_true, if_false, Bool.false_eq_true, Bool.not_true, Bool.not_false, Nat.reduceAdd, Nat.zero_add, reduceIte, g3, x]
  obtain ⟨H1, e1⟩ : ∃ X, X = H ++ [O.lst firsts] := ⟨_, rfl⟩
  have at2 : ∀ p ∈ chS.zipIdx 4, H1[p.2]? = some (.otp (wsD p.1)) := fun p hp => by rw [e1]; exact app_at (at1 p hp)
  have c1 : Cl H1 := by rw [e1]; exact cH.add rfl
  have t1 : vTuple [.ref H.length] H1 = some (firR.d, H1) := by rw [e1]; exact tuple_ref app_get0
  rw [← e1] at q3
  have q2 : q2_law (LE ns (some dueD) (some rulesD) none none none (some (.ref 10)) none none none) H1 = .ok (.ref H1.length) (H1 ++ [.lst lasts]) := by
    unfold q2_law
    rw [comp_tup (chS.zipIdx 4) (fun p => .ref p.2) (fun _ => true) (fun p => .str (p.1.getLastD "")) rfl (by decide) fun p hp => ⟨[some (.sl (ns.map .int)), some (.ref 3), some dueD, some rulesD, none, none, none, some (.ref p.2), none, none, none, none], rfl, rfl, fun _ => gc_pure ?_ c1 rfl⟩, filter_all]
    · rfl
    · obtain ⟨i0, g1, g2⟩ := hd0 p hp
      have g3 := (tix_ok (at2 p hp) i0).2.2
      have x : vIx (.tup (wsD p.1)) (.int (-1)) H1 = some (.str (p.1.getLastD ""), H1) := by
        show (L2.atI (p.1.map D.str) (-1)).map _ = _
        rw [g2]; rfl
      have ng : vNeg (.int 1) H1 = some (.int (-1), H1) := rfl
      simp only [sSeq, sSet, sRet, sRetN, sIf, sPass, sExpr, sPar2, sAsg, tsB, tNotM, tAndM, tOrM, eAndM, eOrM, eNotM, eIfM, eOp1, eOp2, eOpN, eCall, DS.guard, aCons, aNil, eVar, eC, bind_ok, lft_some, ofR_ok, eIsi, Option.map_some, List.length_cons, List.length_nil, List.getElem?_cons_zero, List.getElem?_cons_succ, List.set_cons_zero, List.set_cons_succ, if_true, if_false, Bool.false_eq_true, Bool.not_true, Bool.not_false, Nat.reduceAdd, Nat.zero_add, reduceIte, g3, ng, x]
  obtain ⟨H2, e2⟩ : ∃ X, X = H1 ++ [O.lst lasts] := ⟨_, rfl⟩
  have t2 : vTuple [.ref H1.length] H2 = some (lasR.d, H2) := by rw [e2]; exact tuple_ref app_get0
  rw [← e2] at q2
  have ng : ∀ X, vNeg (.int 1) X = some (.int (-1), X) := fun _ => rfl
  have sl : ∀ X, vSl firR.d none (some 6) X = some (.tup [.str "any", .str "cells", .str "cells", .str "never", .str "one", .str "took"], X) := fun X => rfl
  have ad : ∀ X, vAdd (.tup [.str "any", .str "cells", .str "cells", .str "never", .str "one", .str "took"]) (.tup [.str "known"]) X = some (secR.d, X) := fun X => rfl
  have vl : ∀ X, vLst [firR.d, secR.d, lasR.d] X = some (.ref X.length, X ++ [.lst [firR.d, secR.d, lasR.d]]) := fun X => vLst_ok (by simp)
  have ll : (H2 ++ [O.lst [firR.d, secR.d, lasR.d]]).length = H2.length + 1 := by simp
  have eq : vEq (.ref H2.length) (.ref (H2.length + 1)) (H2 ++ [O.lst [firR.d, secR.d, lasR.d]] ++ [O.lst [firR.d, secR.d, lasR.d]]) = some (.bl true, H2 ++ [O.lst [firR.d, secR.d, lasR.d]] ++ [O.lst [firR.d, secR.d, lasR.d]]) := by
    have a1 : (H2 ++ [O.lst [firR.d, secR.d, lasR.d]] ++ [O.lst [firR.d, secR.d, lasR.d]])[H2.length]? = some (.lst [firR.d, secR.d, lasR.d]) := app_at app_get0
    have a2 : (H2 ++ [O.lst [firR.d, secR.d, lasR.d]] ++ [O.lst [firR.d, secR.d, lasR.d]])[H2.length + 1]? = some (.lst [firR.d, secR.d, lasR.d]) := by
      rw [← ll]; exact app_get0
    have g5 : listOf1 (.ref H2.length) (H2 ++ [O.lst [firR.d, secR.d, lasR.d]] ++ [O.lst [firR.d, secR.d, lasR.d]]) = some [firR.d, secR.d, lasR.d] := by
      show ((_ : Hs)[_]?).bind lsO = _
      rw [a1]; rfl
    have g6 : listOf1 (.ref (H2.length + 1)) (H2 ++ [O.lst [firR.d, secR.d, lasR.d]] ++ [O.lst [firR.d, secR.d, lasR.d]]) = some [firR.d, secR.d, lasR.d] := by
      show ((_ : Hs)[_]?).bind lsO = _
      rw [a2]; rfl
    have ok : ([firR.d, secR.d, lasR.d]).all (okN 29) = true := by
      rw [List.all_cons, List.all_cons, List.all_cons, rule_ok, rule_ok, rule_ok]; rfl
    unfold vEq eqH
    rw [g5, g6]
    simp only
    rw [ok, if_pos (show (true && true) = true from rfl), eqA_refl 29 _ ok]; rfl
  refine ⟨H2 ++ [O.lst [firR.d, secR.d, lasR.d]] ++ [O.lst [firR.d, secR.d, lasR.d]], ?_⟩
  simp only [sSeq, sSet, sRet, sRetN, sIf, sPass, sExpr, sPar2, sAsg, tsB, tNotM, tAndM, tOrM, eAndM, eOrM, eNotM, eIfM, eOp1, eOp2, eOpN, eCall, DS.guard, aCons, aNil, eVar, eC, bind_ok, lft_some, ofR_ok, eIsi, Option.map_some, List.length_cons, List.length_nil, List.getElem?_cons_zero, List.getElem?_cons_succ, List.set_cons_zero, List.set_cons_succ, if_true, if_false, Bool.false_eq_true, Bool.not_true, Bool.not_false, Nat.reduceAdd, Nat.zero_add, reduceIte, q3, t1, q2, t2, r0_ok, r1_ok, ng, r2_ok, vl, eSl, oSome, oNone, sl, ad, tup1, ll, eq]
section
variable (ns : List Int)
theorem ar0 : f_all_rules [] ((S.init ns).hp ++ T0) = .ok rulesD ((S.init ns).hp ++ T0) := all_rules_ok ((S.cl0 _).app0 T0_low)
theorem ar1 : f_all_rules [] ((S.init ns).hp ++ T1) = .ok rulesD ((S.init ns).hp ++ T1) := all_rules_ok ((S.cl0 _).app0 T1_low)
theorem due1 : vPlain dueD ((S.init ns).hp ++ T0) = some (c_CHOICES, (S.init ns).hp ++ T0) := by kernel_rfl
theorem ne1 (H : Hs) : vNe c_CHOICES c_CHOICES H = some (.bl false, H) := vNe_same (by decide +kernel)
theorem ln1 (H : Hs) : vLen [rulesD] H = some (.int 3240, H) := by
  unfold vLen rulesD
  simp only [seqOf, List.length_map, rules_len]
  rfl
theorem n32 (H : Hs) : vNe (.int 3240) (.int 3240) H = some (.bl false, H) := rfl
theorem q1_ok : q1_law (LE ns (some dueD) (some rulesD) none none none none none none none) ((S.init ns).hp ++ T0) = .ok (.ref 11) ((S.init ns).hp ++ (T0 ++ [.lst (rules.map pairR)])) := by
  have c0 : Cl ((S.init ns).hp ++ T0) := (S.cl0 _).app0 T0_low
  unfold q1_law
  rw [comp_tup rules Rule.d (fun _ => true) pairR rfl (by rw [rules_len]; decide) fun o ho => ⟨[some (.sl (ns.map .int)), some (.ref 3), some dueD, some rulesD, none, none, none, none, none, none, none, some o.d], rfl, rfl, fun _ => gc_pure ?_ c0 rfl⟩, filter_all, List.append_assoc]
  · rfl
  · simp only [sSeq, sSet, sRet, sRetN, sIf, sPass, sExpr, sPar2, sAsg, tsB, tNotM, tAndM, tOrM, eAndM, eOrM, eNotM, eIfM, eOp1, eOp2, eOpN, eCall, DS.guard, aCons, aNil, eVar, eC, bind_ok, lft_some, ofR_ok, eIsi, Option.map_some, List.length_cons, List.length_nil, List.getElem?_cons_zero, List.getElem?_cons_succ, List.set_cons_zero, List.set_cons_succ, if_true, if_false, Bool.false_eq_true, Bool.not_true, Bool.not_false, Nat.reduceAdd, Nat.zero_add, reduceIte, tup0, tup1, tup2, tup3, tup4, tup5, tup6, tup7, tup8]; rfl
theorem dl_ok : vDict [.ref 11] ((S.init ns).hp ++ (T0 ++ [.lst (rules.map pairR)])) = some (.ref 12, (S.init ns).hp ++ T1) := by
  have h11 : ((S.init ns).hp ++ (T0 ++ [O.lst (rules.map pairR)]))[11]? = some (.lst (rules.map pairR)) := by
    rw [← List.append_assoc]
    exact app_get0 (h := (S.init ns).hp ++ T0)
  rw [dict_len h11, List.append_assoc, List.append_assoc]
  unfold T1
  rfl
theorem lt_ok : vLenT [.ref 12] ((S.init ns).hp ++ T1) = some (.int 3240, (S.init ns).hp ++ T1) := by
  have : ((S.init ns).hp ++ T1)[12]? = some (.dtt (rules.map fun r => (r.d, D.int 0))) := by
    unfold T1
    rw [show (S.init ns).hp ++ (T0 ++ [O.lst (rules.map pairR), O.dtt (rules.map fun r => (r.d, D.int 0))]) = ((S.init ns).hp ++ (T0 ++ [O.lst (rules.map pairR)])) ++ [O.dtt (rules.map fun r => (r.d, D.int 0))] by simp only [List.append_assoc, List.cons_append, List.nil_append]]
    exact app_get0 (h := (S.init ns).hp ++ (T0 ++ [O.lst (rules.map pairR)]))
  simp only [vLenT, this, Option.bind_some, tdO, List.length_map, rules_len]; rfl
theorem ne2 (H : Hs) : vNe rulesD rulesD H = some (.bl false, H) := vNe_same (by
    show (rules.map Rule.d).all (okN 29) = true
    rw [List.all_map]; exact List.all_eq_true.mpr fun r _ => rule_ok r)
theorem loop_ok (hl : ns.length ≤ 63) : ∃ s : S, s.ok 500 ∧ l2_law (LE ns (some dueD) (some rulesD) none none none none none none none) ((S.init ns).hp ++ T1) = .nx (LE ns (some dueD) (some rulesD) none none none (some (.ref 10)) none none none) (s.hp ++ T1) := by
  have ok0 := S.init_ok hl
  unfold l2_law
  obtain ⟨e', h', q, s, o1, x7, o2, o3, o4⟩ := for_rng_inv (g := gName 4) (body := b2_law) (lo := 0) (n := 20) (e := LE ns (some dueD) (some rulesD) none none none none none none none) (h := (S.init ns).hp ++ T1) (h0 := (S.init ns).hp ++ T1) (fun i e h => ∃ s : S, s.ok (500 + 20 * (20 - i)) ∧ ∃ x7, e = LE ns (some dueD) (some rulesD) none none none x7 none none none ∧ h = s.hp ++ T1 ∧ (i = 20 → x7 = some (.ref 10))) (mi := iRange1 (eC (.int 20))) rfl ⟨S.init ns, ok0.mono (by omega), none, rfl, rfl, fun z => by cases z⟩ (by
    rintro i e h hi ⟨s, o, x7, rfl, rfl, _⟩
    obtain ⟨s', o', st⟩ := body_ok (ns := ns) (s := s) (x7 := x7) (k := i) (N := 500 + 20 * (20 - (i + 1))) (o.mono (by omega))
    refine ⟨LE ns (some dueD) (some rulesD) (some (.int i)) none none x7 none none none, _, _, _, by rw [Int.zero_add]; rfl, st, s', o', _, rfl, rfl, fun _ => rfl⟩)
  refine ⟨s, o1.mono (by omega), ?_⟩
  rw [q, o2, o3, o4 rfl]
theorem st2 : sSet 2 (eOpN vTup (aCons (eOpN vTpO (aCons (eC (.str "any")) (aCons (eC (.str "guess")) (aCons (eC (.str "known")) aNil)))) (aCons (eOpN vTpO (aCons (eC (.str "cells")) (aCons (eC (.str "wait")) (aCons (eC (.str "store")) aNil)))) (aCons (eOpN vTpO (aCons (eC (.str "cells")) (aCons (eC (.str "word")) (aCons (eC (.str "sign")) (aCons (eC (.str "all")) (aCons (eC (.str "none")) aNil)))))) aNil)))) (LE ns none none none none none none none none none) (S.init ns).hp = .nx (LE ns (some (.tup [.ref 4, .ref 5, .ref 6])) none none none none none none none none) ((S.init ns).hp ++ (chS.take 3).map fun ws => .otp (wsD ws)) := by kernel_rfl
theorem st3 : sSet 2 (eOp2 vAdd (eVar 2) (eOpN vTup (aCons (eOpN vTpO (aCons (eC (.str "never")) (aCons (eC (.str "each")) (aCons (eC (.str "some")) aNil)))) (aCons (eOpN vTpO (aCons (eC (.str "one")) (aCons (eC (.str "hanging")) (aCons (eC (.str "behind")) (aCons (eC (.str "all")) aNil))))) (aCons (eOpN vTpO (aCons (eC (.str "took")) (aCons (eC (.str "none")) aNil))) aNil))))) (LE ns (some (.tup [.ref 4, .ref 5, .ref 6])) none none none none none none none none) ((S.init ns).hp ++ (chS.take 3).map fun ws => .otp (wsD ws)) = .nx (LE ns (some (.tup [.ref 4, .ref 5, .ref 6, .ref 7, .ref 8, .ref 9])) none none none none none none none none) ((S.init ns).hp ++ (chS.take 6).map fun ws => .otp (wsD ws)) := by kernel_rfl
theorem st4 : sSet 2 (eOp2 vAdd (eVar 2) (eOpN vTup (aCons (eOpN vTpO (aCons (eC (.str "eldest")) (aCons (eC (.str "known")) (aCons (eC (.str "ran")) aNil)))) aNil))) (LE ns (some (.tup [.ref 4, .ref 5, .ref 6, .ref 7, .ref 8, .ref 9])) none none none none none none none none) ((S.init ns).hp ++ (chS.take 6).map fun ws => .otp (wsD ws)) = .nx (LE ns (some dueD) none none none none none none none none) ((S.init ns).hp ++ T0) := by kernel_rfl
end
end K03

set_option Elab.async false
set_option linter.all false
set_option maxRecDepth 100000
set_option maxHeartbeats 4000000
/-! LAWW03: the law holds. -/
namespace K03
open DS PySem
theorem p1 (ns : List Int) (hl : ns.length ≤ 63) : sSet 1 (eCall 1 f__law_begin (aCons (eVar 0) aNil)) [some (.sl (ns.map .int)), none, none, none, none, none, none, none, none, none, none, none] [] = .nx (LE ns none none none none none none none none none) (S.init ns).hp := by
  have b : f__law_begin [.sl (ns.map .int)] [] = .ok (.ref 3) (S.init ns).hp := begin_eq hl
  simp only [sSeq, sSet, sRet, sRetN, sIf, sPass, sExpr, sPar2, sAsg, tsB, tNotM, tAndM, tOrM, eAndM, eOrM, eNotM, eIfM, eOp1, eOp2, eOpN, eCall, DS.guard, aCons, aNil, eVar, eC, bind_ok, lft_some, ofR_ok, eIsi, Option.map_some, List.length_cons, List.length_nil, List.getElem?_cons_zero, List.getElem?_cons_succ, List.set_cons_zero, List.set_cons_succ, if_true, if_false, Bool.false_eq_true, Bool.not_true, Bool.not_false, Nat.reduceAdd, Nat.zero_add, reduceIte, b]
theorem p2 {sc due R : D} {H : Hs} (ar : f_all_rules [] H = .ok R H) : sSet 3 (eCall 0 f_all_rules aNil) [some sc, some (.ref 3), some due, none, none, none, none, none, none, none, none, none] H = .nx [some sc, some (.ref 3), some due, some R, none, none, none, none, none, none, none, none] H := by simp only [sSeq, sSet, sRet, sRetN, sIf, sPass, sExpr, sPar2, sAsg, tsB, tNotM, tAndM, tOrM, eAndM, eOrM, eNotM, eIfM, eOp1, eOp2, eOpN, eCall, DS.guard, aCons, aNil, eVar, eC, bind_ok, lft_some, ofR_ok, eIsi, Option.map_some, List.length_cons, List.length_nil, List.getElem?_cons_zero, List.getElem?_cons_succ, List.set_cons_zero, List.set_cons_succ, if_true, if_false, Bool.false_eq_true, Bool.not_true, Bool.not_false, Nat.reduceAdd, Nat.zero_add, reduceIte, ar]
theorem p3 {sc due R : D} {H0 H1 H2 : Hs} {a b : Nat} (du : vPlain due H0 = some (c_CHOICES, H0)) (n1 : vNe c_CHOICES c_CHOICES H0 = some (.bl false, H0)) (l1 : vLen [R] H0 = some (.int 3240, H0)) (n32 : ∀ H : Hs, vNe (.int 3240) (.int 3240) H = some (.bl false, H))
    (q : q1_law [some sc, some (.ref 3), some due, some R, none, none, none, none, none, none, none, none] H0 = .ok (.ref a) H1) (dl : vDict [.ref a] H1 = some (.ref b, H2)) (lt : vLenT [.ref b] H2 = some (.int 3240, H2)) (ar : f_all_rules [] H2 = .ok R H2) (n2 : vNe R R H2 = some (.bl false, H2)) :
    (sIf (tOrM (tsB (eOp2 vNe (eC c_CHOICES) (eOp1 vPlain (eVar 2)))) (tOrM (tsB (eOp2 vNe (eOpN vLen (aCons (eVar 3) aNil)) (eC (.int 3240)))) (tOrM (tsB (eOp2 vNe (eOpN vLenT (aCons (eOpN vDict (aCons q1_law aNil)) aNil)) (eC (.int 3240)))) (tsB (eOp2 vNe (eCall 0 f_all_rules aNil) (eVar 3)))))) (sRet (eC (.bl false))) sPass) [some sc, some (.ref 3), some due, some R, none, none, none, none, none, none, none, none] H0 = .nx [some sc, some (.ref 3), some due, some R, none, none, none, none, none, none, none, none] H2 := by
  generalize c_CHOICES = ch at *
  simp only [sSeq, sSet, sRet, sRetN, sIf, sPass, sExpr, sPar2, sAsg, tsB, tNotM, tAndM, tOrM, eAndM, eOrM, eNotM, eIfM, eOp1, eOp2, eOpN, eCall, DS.guard, aCons, aNil, eVar, eC, bind_ok, lft_some, ofR_ok, eIsi, Option.map_some, List.length_cons, List.length_nil, List.getElem?_cons_zero, List.getElem?_cons_succ, List.set_cons_zero, List.set_cons_succ, if_true, if_false, Bool.false_eq_true, Bool.not_true, Bool.not_false, Nat.reduceAdd, Nat.zero_add, reduceIte, du, n1, l1, n32, q, dl, lt, ar, n2]
theorem law_true (ns : List Int) (hl : ns.length ≤ 63) : ∃ h', f_law [.sl (ns.map .int)] [] = .ok (.bl true) h' := by
  obtain ⟨s, ok1, lp⟩ := loop_ok ns hl
  have cH : Cl (s.hp ++ T1) := (S.cl0 s).app0 T1_low
  obtain ⟨r, er⟩ := tail_ok (ns := ns) cH (T1_at s) rfl
  refine ⟨_, mFn_ret (h1 := []) (r := r) (d := .bl true) ?_ rfl Cl.nil rfl⟩
  show m_law [some (.sl (ns.map .int)), none, none, none, none, none, none, none, none, none, none, none] [] = _
  unfold m_law
  rw [sq_nx (e1 := LE ns none none none none none none none none none) (h1 := (S.init ns).hp) (p1 ns hl), sq_nx (st2 ns), sq_nx (st3 ns), sq_nx (st4 ns)]
  rw [sq_nx (e1 := LE ns (some dueD) (some rulesD) none none none none none none none) (h1 := (S.init ns).hp ++ T0) (p2 (ar0 ns))]
  rw [sq_nx (e1 := LE ns (some dueD) (some rulesD) none none none none none none none) (h1 := (S.init ns).hp ++ T1) (p3 (due1 ns) (ne1 _) (ln1 _) n32 (q1_ok ns) (dl_ok ns) (lt_ok ns) (ar1 ns) (ne2 _))]
  rw [sq_nx lp]
  exact er
end K03

set_option Elab.async false
set_option linter.all false
set_option maxRecDepth 100000
set_option maxHeartbeats 4000000
namespace K03
open PySem PySem.Spec PyProof.Rows L2 DS
structure Txt (P : Program) (w : World) (K : PySem.W.Frag) (mg : Str → Option Value) (base : Heap) (cl : CW) : Prop where
  d_need_rule : DefAt K mg "need_rule" st_need_rule P_need_rule
  d_all_rules : DefAt K mg "all_rules" st_all_rules P_all_rules
  d__law_mixed : DefAt K mg "_law_mixed" st__law_mixed P__law_mixed
  d__law_begin : DefAt K mg "_law_begin" st__law_begin P__law_begin
  d__law_draw : DefAt K mg "_law_draw" st__law_draw P__law_draw
  d__law_rule : DefAt K mg "_law_rule" st__law_rule P__law_rule
  d_law : DefAt K mg "law" st_law P_law
  hw : cl.w = w
  n_dict : mg "dict" = none
  n_enumerate : mg "enumerate" = none
  n_int : mg "int" = none
  n_isinstance : mg "isinstance" = none
  n_len : mg "len" = none
  n_list : mg "list" = none
  n_range : mg "range" = none
  n_str : mg "str" = none
  n_tuple : mg "tuple" = none
  n_zip : mg "zip" = none
  c_CHOICES : GC K mg "CHOICES" c_CHOICES
theorem sc_need_rule : FnScope N_need_rule P_need_rule (defScope st_need_rule) := ⟨rfl, rfl, rfl, by decide +kernel, rfl, by decide +kernel, by decide +kernel⟩
theorem sc_all_rules : FnScope N_all_rules P_all_rules (defScope st_all_rules) := ⟨rfl, rfl, rfl, by decide +kernel, rfl, by decide +kernel, by decide +kernel⟩
theorem sc__law_mixed : FnScope N__law_mixed P__law_mixed (defScope st__law_mixed) := ⟨rfl, rfl, rfl, by decide +kernel, rfl, by decide +kernel, by decide +kernel⟩
theorem sc__law_begin : FnScope N__law_begin P__law_begin (defScope st__law_begin) := ⟨rfl, rfl, rfl, by decide +kernel, rfl, by decide +kernel, by decide +kernel⟩
theorem sc__law_draw : FnScope N__law_draw P__law_draw (defScope st__law_draw) := ⟨rfl, rfl, rfl, by decide +kernel, rfl, by decide +kernel, by decide +kernel⟩
theorem sc__law_rule : FnScope N__law_rule P__law_rule (defScope st__law_rule) := ⟨rfl, rfl, rfl, by decide +kernel, rfl, by decide +kernel, by decide +kernel⟩
theorem sc_law : FnScope N_law P_law (defScope st_law) := ⟨rfl, rfl, rfl, by decide +kernel, rfl, by decide +kernel, by decide +kernel⟩
section
variable {P : Program} {w : World} {K : PySem.W.Frag} {mg : Str → Option Value} {base : Heap} {cl : CW}
theorem s_need_rule (T : Txt P w K mg base cl) : FnS false P w K mg base cl 1 "need_rule" 1 f_need_rule :=
  FnS.mk (m := m_need_rule) T.d_need_rule sc_need_rule fun f cdv A outer s H E hr => by
    have nd := sc_need_rule.nd
    have tk : Takes (cxOf (L2.CX P w) P w K mg base N_need_rule "need_rule" (defScope st_need_rule) f cdv A outer s H E) (fun c d _ H' => E c d H') := takes_of rfl rfl rfl rfl
    have po : PassesOwn (model P w) (A.deeper (envOfC "need_rule" (defScope st_need_rule) s.heap.objs.size f cdv)) (envOfC "need_rule" (defScope st_need_rule) s.heap.objs.size f cdv) (cxOf (L2.CX P w) P w K mg base N_need_rule "need_rule" (defScope st_need_rule) f cdv A outer s H E).xe := passes_of rfl
    exact (sb_cons (ss_if (st_bool (sw_or (st_not (st_val (se_isi (T := .tup) T.n_isinstance T.n_tuple (by decide +kernel) (se_var (i := 0))))) (sw_or1 (st_cmp (o_ne hr.units) (se_callB b_len T.n_len (by decide +kernel) (sa_cons (se_var (i := 0)) sa_nil)) (se_callB b_len T.n_len (by decide +kernel) (sa_cons (se_glob T.c_CHOICES) sa_nil)))))) (sb_one ss_bad) sb_nil)
    (sb_cons (ss_for po rfl (si_enum T.n_enumerate (se_var (i := 0))) (sg_tup rfl (sgs_cons (sg_name (k := 1) nd rfl (Or.inl rfl)) (sgs_cons (sg_name (k := 2) nd rfl (Or.inl rfl)) sgs_nil))) (sb_tidy (sb_one (ss_if (st_bool (sw_or (st_not (st_val (se_isi (T := .str) T.n_isinstance T.n_str (by decide +kernel) (se_var (i := 2))))) (sw_or1 (st_cmp o_notIn (se_var (i := 2)) (se_ix o_ix (se_glob T.c_CHOICES) (se_var (i := 1))))))) (sb_one ss_bad) sb_nil))))
    (sb_one (ss_ret (se_var (i := 0))))))
theorem s_all_rules (T : Txt P w K mg base cl) : FnS false P w K mg base cl 1 "all_rules" 0 f_all_rules :=
  FnS.mk (m := m_all_rules) T.d_all_rules sc_all_rules fun f cdv A outer s H E hr => by
    have nd := sc_all_rules.nd
    have tk : Takes (cxOf (L2.CX P w) P w K mg base N_all_rules "all_rules" (defScope st_all_rules) f cdv A outer s H E) (fun c d _ H' => E c d H') := takes_of rfl rfl rfl rfl
    have po : PassesOwn (model P w) (A.deeper (envOfC "all_rules" (defScope st_all_rules) s.heap.objs.size f cdv)) (envOfC "all_rules" (defScope st_all_rules) s.heap.objs.size f cdv) (cxOf (L2.CX P w) P w K mg base N_all_rules "all_rules" (defScope st_all_rules) f cdv A outer s H E).xe := passes_of rfl
    exact (sb_cons (ss_set (k := 0) nd rfl (Or.inl rfl) (se_lst (sa_cons (se_tup sa_nil) sa_nil)))
    (sb_cons (ss_for po rfl (si_seq (se_glob T.c_CHOICES)) (sg_name (k := 1) nd rfl (Or.inr rfl)) (sb_tidy (sb_one (ss_setComp2 (own := [("rule", 2), ("word", 3)]) (g := (.nm 2)) (g1 := (.nm 3)) (k := 0) rfl nd rfl rfl (sw_true rfl rfl rfl (by decide +kernel)) (si_seq (se_var (i := 0))) (blkOk_by (own := [("rule", 2), ("word", 3)]) (N := N_all_rules) (sc := defScope st_all_rules) (by decide +kernel)) [3] (by decide) (fun _ _ _ _ _ => pg_name (i := 2) nd rfl (Or.inl rfl)) (fun _ _ _ _ _ => sts_nil) (fun _ _ _ _ _ => (si_seq (se_var (i := 1)))) (fun _ _ _ _ _ => pg_name (i := 3) nd rfl (Or.inl rfl)) (fun _ _ _ _ _ => sts_nil) (fun _ _ _ _ _ => (se_tup (sa_star (se_var (i := 2)) (sa_cons (se_var (i := 3)) sa_nil))))))))
    (sb_one (ss_ret (se_callT b_tuple T.n_tuple (by decide +kernel) (sa_cons (se_var (i := 0)) sa_nil))))))
theorem s__law_mixed (T : Txt P w K mg base cl) : FnS false P w K mg base cl 1 "_law_mixed" 2 f__law_mixed :=
  FnS.mk (m := m__law_mixed) T.d__law_mixed sc__law_mixed fun f cdv A outer s H E hr => by
    have nd := sc__law_mixed.nd
    have tk : Takes (cxOf (L2.CX P w) P w K mg base N__law_mixed "_law_mixed" (defScope st__law_mixed) f cdv A outer s H E) (fun c d _ H' => E c d H') := takes_of rfl rfl rfl rfl
    have po : PassesOwn (model P w) (A.deeper (envOfC "_law_mixed" (defScope st__law_mixed) s.heap.objs.size f cdv)) (envOfC "_law_mixed" (defScope st__law_mixed) s.heap.objs.size f cdv) (cxOf (L2.CX P w) P w K mg base N__law_mixed "_law_mixed" (defScope st__law_mixed) f cdv A outer s H E).xe := passes_of rfl
    exact (sb_cons (ss_set (k := 0) nd rfl (Or.inl rfl) (se_op2 o_mod (se_callT b_int T.n_int (by decide +kernel) (sa_cons (se_var (i := 0)) sa_nil)) se_int))
    (sb_one (ss_ret (se_op2 o_mod (se_op2 o_mul (se_op2 o_mod (se_op2 o_add (se_op2 o_add (se_op2 o_mul (se_var (i := 0)) (se_op2 o_add se_int (se_op2 o_mul (se_op2 o_mul se_int (se_var (i := 1))) (se_var (i := 1))))) (se_op2 o_mul se_int (se_var (i := 1)))) se_int) se_int) se_int) se_int))))
theorem s__law_begin (T : Txt P w K mg base cl) : FnS false P w K mg base cl 1 "_law_begin" 1 f__law_begin :=
  FnS.mk (m := m__law_begin) T.d__law_begin sc__law_begin fun f cdv A outer s H E hr => by
    have nd := sc__law_begin.nd
    have tk : Takes (cxOf (L2.CX P w) P w K mg base N__law_begin "_law_begin" (defScope st__law_begin) f cdv A outer s H E) (fun c d _ H' => E c d H') := takes_of rfl rfl rfl rfl
    have po : PassesOwn (model P w) (A.deeper (envOfC "_law_begin" (defScope st__law_begin) s.heap.objs.size f cdv)) (envOfC "_law_begin" (defScope st__law_begin) s.heap.objs.size f cdv) (cxOf (L2.CX P w) P w K mg base N__law_begin "_law_begin" (defScope st__law_begin) f cdv A outer s H E).xe := passes_of rfl
    exact (sb_cons (ss_set (k := 1) nd rfl (Or.inl rfl) (se_ifExp (st_cmp (o_ne hr.units) (se_var (i := 0)) (se_lst sa_nil)) (se_callT b_list T.n_list (by decide +kernel) (sa_cons (se_var (i := 0)) sa_nil)) (se_lst (sa_cons se_int sa_nil))))
    (sb_one (ss_ret (se_dict (.cons se_str (se_var (i := 1)) (.cons se_str (se_comp (own := [("_law_cell", 2)]) (g := (.nm 2)) rfl nd (si_seq (se_var (i := 1))) (blkOk_by (own := [("_law_cell", 2)]) (N := N__law_begin) (sc := defScope st__law_begin) (by decide +kernel)) (fun _ _ _ _ _ => pg_name (i := 2) nd rfl (Or.inl rfl)) (fun _ _ _ _ _ => sts_nil) (fun _ _ _ _ _ => (se_ifExp (st_cmp o_ge (se_var (i := 2)) (se_op2 o_pow se_int se_int)) (se_var (i := 2)) se_int))) (.cons se_str se_int (.cons se_str se_int .nil))))))))
theorem s__law_draw (T : Txt P w K mg base cl) : FnS false P w K mg base cl 2 "_law_draw" 2 f__law_draw :=
  FnS.mk (m := m__law_draw) T.d__law_draw sc__law_draw fun f cdv A outer s H E hr => by
    have nd := sc__law_draw.nd
    have tk : Takes (cxOf (L2.CX P w) P w K mg base N__law_draw "_law_draw" (defScope st__law_draw) f cdv A outer s H E) (fun c d _ H' => E c d H') := takes_of rfl rfl rfl rfl
    have po : PassesOwn (model P w) (A.deeper (envOfC "_law_draw" (defScope st__law_draw) s.heap.objs.size f cdv)) (envOfC "_law_draw" (defScope st__law_draw) s.heap.objs.size f cdv) (cxOf (L2.CX P w) P w K mg base N__law_draw "_law_draw" (defScope st__law_draw) f cdv A outer s H E).xe := passes_of rfl
    exact (sb_cons (ss_set (k := 2) nd rfl (Or.inl rfl) (se_dget hr.hu (se_var (i := 0)) se_str))
    (sb_cons (ss_dput hr.hu (se_op2 o_add (se_var (i := 2)) se_int) (se_var (i := 0)) se_str)
    (sb_cons (ss_set (k := 3) nd rfl (Or.inl rfl) (se_op2 o_mod (se_callT b_int T.n_int (by decide +kernel) (sa_cons (se_var (i := 2)) sa_nil)) (se_callB b_len T.n_len (by decide +kernel) (sa_cons (se_dget hr.hu (se_var (i := 0)) se_str) sa_nil))))
    (sb_cons (ss_set (k := 4) nd rfl (Or.inl rfl) (se_ix o_ix (se_dget hr.hu (se_var (i := 0)) se_str) (se_var (i := 3))))
    (sb_cons (ss_if (st_cmp o_gt (se_var (i := 4)) se_int) (sb_cons (ss_lput (se_op2 o_fdiv (se_var (i := 4)) (se_var (i := 1))) (se_dget hr.hu (se_var (i := 0)) se_str) (se_var (i := 3)))
    (sb_one (ss_ret (se_op2 o_mod (se_callT b_int T.n_int (by decide +kernel) (sa_cons (se_var (i := 4)) sa_nil)) (se_var (i := 1)))))) sb_nil)
    (sb_cons (ss_set (k := 5) nd rfl (Or.inl rfl) (se_call (s__law_mixed T) (hr.mono (by decide)) tk (sa_cons (se_call (s__law_mixed T) (hr.mono (by decide)) tk (sa_cons (se_ix o_ix (se_dget hr.hu (se_var (i := 0)) se_str) (se_var (i := 3))) (sa_cons (se_var (i := 2)) sa_nil))) (sa_cons (se_op2 o_add se_int (se_var (i := 2))) sa_nil))))
    (sb_one (ss_ret (se_op2 o_mod (se_op2 o_fdiv (se_callT b_int T.n_int (by decide +kernel) (sa_cons (se_op2 o_add (se_op2 o_mul (se_var (i := 5)) se_int) (se_call (s__law_mixed T) (hr.mono (by decide)) tk (sa_cons (se_var (i := 5)) (sa_cons (se_op2 o_add se_int (se_var (i := 2))) sa_nil)))) sa_nil)) se_int) (se_var (i := 1)))))))))))
theorem s__law_rule (T : Txt P w K mg base cl) : FnS false P w K mg base cl 3 "_law_rule" 1 f__law_rule :=
  FnS.mk (m := m__law_rule) T.d__law_rule sc__law_rule fun f cdv A outer s H E hr => by
    have nd := sc__law_rule.nd
    have tk : Takes (cxOf (L2.CX P w) P w K mg base N__law_rule "_law_rule" (defScope st__law_rule) f cdv A outer s H E) (fun c d _ H' => E c d H') := takes_of rfl rfl rfl rfl
    have po : PassesOwn (model P w) (A.deeper (envOfC "_law_rule" (defScope st__law_rule) s.heap.objs.size f cdv)) (envOfC "_law_rule" (defScope st__law_rule) s.heap.objs.size f cdv) (cxOf (L2.CX P w) P w K mg base N__law_rule "_law_rule" (defScope st__law_rule) f cdv A outer s H E).xe := passes_of rfl
    exact (sb_cons (ss_par2 (k := 1) (l := 2) rfl nd rfl rfl (by decide) rfl rfl (sa_cons (se_ix o_ix (se_lst (sa_cons se_str (sa_cons se_str (sa_cons se_str (sa_cons se_str sa_nil))))) (se_call (s__law_draw T) (hr.mono (by decide)) tk (sa_cons (se_var (i := 0)) (sa_cons se_int sa_nil)))) (sa_cons (se_ix o_ix (se_lst (sa_cons se_str (sa_cons se_str (sa_cons se_str sa_nil)))) (se_call (s__law_draw T) (hr.mono (by decide)) tk (sa_cons (se_var (i := 0)) (sa_cons se_int sa_nil)))) sa_nil)))
    (sb_cons (ss_set (k := 3) nd rfl (Or.inl rfl) (se_ix o_ix (se_lst (sa_cons se_str (sa_cons se_str (sa_cons se_str (sa_cons se_str (sa_cons se_str (sa_cons se_str sa_nil))))))) (se_call (s__law_draw T) (hr.mono (by decide)) tk (sa_cons (se_var (i := 0)) (sa_cons se_int sa_nil)))))
    (sb_cons (ss_set (k := 4) nd rfl (Or.inl rfl) (se_ix o_ix (se_lst (sa_cons se_str (sa_cons se_str (sa_cons se_str sa_nil)))) (se_call (s__law_draw T) (hr.mono (by decide)) tk (sa_cons (se_var (i := 0)) (sa_cons se_int sa_nil)))))
    (sb_cons (ss_set (k := 5) nd rfl (Or.inl rfl) (se_ix o_ix (se_lst (sa_cons se_str (sa_cons se_str (sa_cons se_str (sa_cons se_str (sa_cons se_str sa_nil)))))) (se_call (s__law_draw T) (hr.mono (by decide)) tk (sa_cons (se_var (i := 0)) (sa_cons se_int sa_nil)))))
    (sb_cons (ss_par2 (k := 6) (l := 7) rfl nd rfl rfl (by decide) rfl rfl (sa_cons (se_ix o_ix (se_lst (sa_cons se_str (sa_cons se_str sa_nil))) (se_call (s__law_draw T) (hr.mono (by decide)) tk (sa_cons (se_var (i := 0)) (sa_cons se_int sa_nil)))) (sa_cons (se_ix o_ix (se_lst (sa_cons se_str (sa_cons se_str (sa_cons se_str sa_nil)))) (se_call (s__law_draw T) (hr.mono (by decide)) tk (sa_cons (se_var (i := 0)) (sa_cons se_int sa_nil)))) sa_nil)))
    (sb_one (ss_ret (se_tup (sa_cons (se_var (i := 1)) (sa_cons (se_var (i := 2)) (sa_cons (se_var (i := 3)) (sa_cons (se_var (i := 4)) (sa_cons (se_var (i := 5)) (sa_cons (se_var (i := 6)) (sa_cons (se_var (i := 7)) sa_nil)))))))))))))))
theorem s_law (T : Txt P w K mg base cl) : FnS true P w K mg base cl 4 "law" 1 f_law :=
  FnS.mk (m := m_law) T.d_law sc_law fun f cdv A outer s H E hr => by
    have nd := sc_law.nd
    have tk : Takes (cxOf (L2.CX P w) P w K mg base N_law "law" (defScope st_law) f cdv A outer s H E) (fun c d _ H' => E c d H') := takes_of rfl rfl rfl rfl
    have po : PassesOwn (model P w) (A.deeper (envOfC "law" (defScope st_law) s.heap.objs.size f cdv)) (envOfC "law" (defScope st_law) s.heap.objs.size f cdv) (cxOf (L2.CX P w) P w K mg base N_law "law" (defScope st_law) f cdv A outer s H E).xe := passes_of rfl
    exact (sb_cons (ss_set (k := 1) nd rfl (Or.inl rfl) (se_call (s__law_begin T) (hr.lo.mono (by decide)) tk (sa_cons (se_var (i := 0)) sa_nil)))
    (sb_cons (ss_set (k := 2) nd rfl (Or.inl rfl) (se_tup (sa_cons (se_tupO (sa_cons se_str (sa_cons se_str (sa_cons se_str sa_nil)))) (sa_cons (se_tupO (sa_cons se_str (sa_cons se_str (sa_cons se_str sa_nil)))) (sa_cons (se_tupO (sa_cons se_str (sa_cons se_str (sa_cons se_str (sa_cons se_str (sa_cons se_str sa_nil)))))) sa_nil)))))
    (sb_cons (ss_set (k := 2) nd rfl (Or.inl rfl) (se_op2 o_add (se_var (i := 2)) (se_tup (sa_cons (se_tupO (sa_cons se_str (sa_cons se_str (sa_cons se_str sa_nil)))) (sa_cons (se_tupO (sa_cons se_str (sa_cons se_str (sa_cons se_str (sa_cons se_str sa_nil))))) (sa_cons (se_tupO (sa_cons se_str (sa_cons se_str sa_nil))) sa_nil))))))
    (sb_cons (ss_set (k := 2) nd rfl (Or.inl rfl) (se_op2 o_add (se_var (i := 2)) (se_tup (sa_cons (se_tupO (sa_cons se_str (sa_cons se_str (sa_cons se_str sa_nil)))) sa_nil))))
    (sb_cons (ss_set (k := 3) nd rfl (Or.inl rfl) (se_call0 (s_all_rules T) (hr.lo.mono (by decide)) tk))
    (sb_cons (ss_if (st_bool (sw_or (st_cmp (o_ne hr.units) (se_glob T.c_CHOICES) (se_plain (se_var (i := 2)))) (sw_or (st_cmp (o_ne hr.units) (se_callB b_len T.n_len (by decide +kernel) (sa_cons (se_var (i := 3)) sa_nil)) se_int) (sw_or (st_cmp (o_ne hr.units) (se_callB (b_lenT T.hw) T.n_len (by decide +kernel) (sa_cons (se_callT (b_dict T.hw rfl hr.units) T.n_dict (by decide +kernel) (sa_cons (se_comp (own := [("_law_one", 11)]) (g := (.nm 11)) rfl nd (si_seq (se_var (i := 3))) (blkOk_by (own := [("_law_one", 11)]) (N := N_law) (sc := defScope st_law) (by decide +kernel)) (fun _ _ _ _ _ => pg_name (i := 11) nd rfl (Or.inl rfl)) (fun _ _ _ _ _ => sts_nil) (fun _ _ _ _ _ => (se_tup (sa_cons (se_var (i := 11)) (sa_cons se_int sa_nil))))) sa_nil)) sa_nil)) se_int) (sw_or1 (st_cmp (o_ne hr.units) (se_call0 (s_all_rules T) (hr.lo.mono (by decide)) tk) (se_var (i := 3)))))))) (sb_one (ss_ret se_bl)) sb_nil)
    (sb_cons (ss_for po rfl (si_range1 T.n_range se_int) (sg_name (k := 4) nd rfl (Or.inl rfl)) (sb_tidy (sb_cons (ss_par2 (k := 5) (l := 6) rfl nd rfl rfl (by decide) rfl rfl (sa_cons (se_call (s__law_rule T) (hr.lo.mono (by decide)) tk (sa_cons (se_var (i := 1)) sa_nil)) (sa_cons se_int sa_nil)))
    (sb_cons (ss_for po rfl (si_zip T.n_zip (se_var (i := 2)) (se_var (i := 5))) (sg_tup rfl (sgs_cons (sg_name (k := 7) nd rfl (Or.inl rfl)) (sgs_cons (sg_name (k := 8) nd rfl (Or.inl rfl)) sgs_nil))) (sb_tidy (sb_one (ss_set (k := 6) nd rfl (Or.inl rfl) (se_op2 o_add (se_op2 o_mul (se_var (i := 6)) (se_callB b_len T.n_len (by decide +kernel) (sa_cons (se_plain (se_var (i := 7))) sa_nil))) (se_tix (se_var (i := 7)) (sa_cons (se_var (i := 8)) sa_nil)))))))
    (sb_one (ss_if (st_bool (sw_or (st_cmp (o_ne hr.units) (se_ix o_ix (se_var (i := 3)) (se_var (i := 6))) (se_var (i := 5))) (sw_or1 (st_cmp (o_ne hr.units) (se_call (s_need_rule T) (hr.lo.mono (by decide)) tk (sa_cons (se_var (i := 5)) sa_nil)) (se_var (i := 5)))))) (sb_one (ss_ret se_bl)) sb_nil))))))
    (sb_cons (ss_par2 (k := 9) (l := 10) rfl nd rfl rfl (by decide) rfl rfl (sa_cons (se_callT b_tuple T.n_tuple (by decide +kernel) (sa_cons (se_comp (own := [("_law_some", 7)]) (g := (.nm 7)) rfl nd (si_seq (se_var (i := 2))) (blkOk_by (own := [("_law_some", 7)]) (N := N_law) (sc := defScope st_law) (by decide +kernel)) (fun _ _ _ _ _ => pg_name (i := 7) nd rfl (Or.inl rfl)) (fun _ _ _ _ _ => sts_nil) (fun _ _ _ _ _ => (se_ix o_ix (se_plain (se_var (i := 7))) se_int))) sa_nil)) (sa_cons (se_callT b_tuple T.n_tuple (by decide +kernel) (sa_cons (se_comp (own := [("_law_some", 7)]) (g := (.nm 7)) rfl nd (si_seq (se_var (i := 2))) (blkOk_by (own := [("_law_some", 7)]) (N := N_law) (sc := defScope st_law) (by decide +kernel)) (fun _ _ _ _ _ => pg_name (i := 7) nd rfl (Or.inl rfl)) (fun _ _ _ _ _ => sts_nil) (fun _ _ _ _ _ => (se_ix o_ix (se_plain (se_var (i := 7))) (se_op1 o_neg se_int)))) sa_nil)) sa_nil)))
    (sb_one (ss_ret (se_cmp (o_eq hr.units) (se_lst (sa_cons (se_ix o_ix (se_var (i := 3)) se_int) (sa_cons (se_ix o_ix (se_var (i := 3)) se_int) (sa_cons (se_ix o_ix (se_var (i := 3)) (se_op1 o_neg se_int)) sa_nil)))) (se_lst (sa_cons (se_var (i := 9)) (sa_cons (se_op2 o_add (se_sl (se_var (i := 9)) so_none (so_some se_int)) (se_tup (sa_cons se_str sa_nil))) (sa_cons (se_var (i := 10)) sa_nil)))))))))))))))
end
end K03

set_option Elab.async false
set_option linter.all false
set_option maxRecDepth 100000
set_option maxHeartbeats 4000000
namespace K03
open PySem PySem.Spec PyProof.Rows L2 DS
theorem law_ok {P : Program} {w : World} {K : PySem.W.Frag} {mg : Str → Option Value} {base : Heap} {cl : CW} {f : Addr} {fd : FuncData} (T : Txt P w K mg base cl) (F : Fun K "law" "law" st_law f fd) : FnG true P w K mg base 4 f fd ["_law_script"] (spM K cl 1 f_law) :=
  fn_okE (m := m_law) F sc_law fun cdv A outer s H E hr => by
    have nd := sc_law.nd
    have tk : Takes (cxOf (L2.CX P w) P w K mg base N_law "law" (defScope st_law) f cdv A outer s H E) (fun c d _ H' => E c d H') := takes_of rfl rfl rfl rfl
    have po : PassesOwn (model P w) (A.deeper (envOfC "law" (defScope st_law) s.heap.objs.size f cdv)) (envOfC "law" (defScope st_law) s.heap.objs.size f cdv) (cxOf (L2.CX P w) P w K mg base N_law "law" (defScope st_law) f cdv A outer s H E).xe := passes_of rfl
    exact (sb_cons (ss_set (k := 1) nd rfl (Or.inl rfl) (se_call (s__law_begin T) (hr.lo.mono (by decide)) tk (sa_cons (se_var (i := 0)) sa_nil)))
    (sb_cons (ss_set (k := 2) nd rfl (Or.inl rfl) (se_tup (sa_cons (se_tupO (sa_cons se_str (sa_cons se_str (sa_cons se_str sa_nil)))) (sa_cons (se_tupO (sa_cons se_str (sa_cons se_str (sa_cons se_str sa_nil)))) (sa_cons (se_tupO (sa_cons se_str (sa_cons se_str (sa_cons se_str (sa_cons se_str (sa_cons se_str sa_nil)))))) sa_nil)))))
    (sb_cons (ss_set (k := 2) nd rfl (Or.inl rfl) (se_op2 o_add (se_var (i := 2)) (se_tup (sa_cons (se_tupO (sa_cons se_str (sa_cons se_str (sa_cons se_str sa_nil)))) (sa_cons (se_tupO (sa_cons se_str (sa_cons se_str (sa_cons se_str (sa_cons se_str sa_nil))))) (sa_cons (se_tupO (sa_cons se_str (sa_cons se_str sa_nil))) sa_nil))))))
    (sb_cons (ss_set (k := 2) nd rfl (Or.inl rfl) (se_op2 o_add (se_var (i := 2)) (se_tup (sa_cons (se_tupO (sa_cons se_str (sa_cons se_str (sa_cons se_str sa_nil)))) sa_nil))))
    (sb_cons (ss_set (k := 3) nd rfl (Or.inl rfl) (se_call0 (s_all_rules T) (hr.lo.mono (by decide)) tk))
    (sb_cons (ss_if (st_bool (sw_or (st_cmp (o_ne hr.units) (se_glob T.c_CHOICES) (se_plain (se_var (i := 2)))) (sw_or (st_cmp (o_ne hr.units) (se_callB b_len T.n_len (by decide +kernel) (sa_cons (se_var (i := 3)) sa_nil)) se_int) (sw_or (st_cmp (o_ne hr.units) (se_callB (b_lenT T.hw) T.n_len (by decide +kernel) (sa_cons (se_callT (b_dict T.hw rfl hr.units) T.n_dict (by decide +kernel) (sa_cons (se_comp (own := [("_law_one", 11)]) (g := (.nm 11)) rfl nd (si_seq (se_var (i := 3))) (blkOk_by (own := [("_law_one", 11)]) (N := N_law) (sc := defScope st_law) (by decide +kernel)) (fun _ _ _ _ _ => pg_name (i := 11) nd rfl (Or.inl rfl)) (fun _ _ _ _ _ => sts_nil) (fun _ _ _ _ _ => (se_tup (sa_cons (se_var (i := 11)) (sa_cons se_int sa_nil))))) sa_nil)) sa_nil)) se_int) (sw_or1 (st_cmp (o_ne hr.units) (se_call0 (s_all_rules T) (hr.lo.mono (by decide)) tk) (se_var (i := 3)))))))) (sb_one (ss_ret se_bl)) sb_nil)
    (sb_cons (ss_for po rfl (si_range1 T.n_range se_int) (sg_name (k := 4) nd rfl (Or.inl rfl)) (sb_tidy (sb_cons (ss_par2 (k := 5) (l := 6) rfl nd rfl rfl (by decide) rfl rfl (sa_cons (se_call (s__law_rule T) (hr.lo.mono (by decide)) tk (sa_cons (se_var (i := 1)) sa_nil)) (sa_cons se_int sa_nil)))
    (sb_cons (ss_for po rfl (si_zip T.n_zip (se_var (i := 2)) (se_var (i := 5))) (sg_tup rfl (sgs_cons (sg_name (k := 7) nd rfl (Or.inl rfl)) (sgs_cons (sg_name (k := 8) nd rfl (Or.inl rfl)) sgs_nil))) (sb_tidy (sb_one (ss_set (k := 6) nd rfl (Or.inl rfl) (se_op2 o_add (se_op2 o_mul (se_var (i := 6)) (se_callB b_len T.n_len (by decide +kernel) (sa_cons (se_plain (se_var (i := 7))) sa_nil))) (se_tix (se_var (i := 7)) (sa_cons (se_var (i := 8)) sa_nil)))))))
    (sb_one (ss_if (st_bool (sw_or (st_cmp (o_ne hr.units) (se_ix o_ix (se_var (i := 3)) (se_var (i := 6))) (se_var (i := 5))) (sw_or1 (st_cmp (o_ne hr.units) (se_call (s_need_rule T) (hr.lo.mono (by decide)) tk (sa_cons (se_var (i := 5)) sa_nil)) (se_var (i := 5)))))) (sb_one (ss_ret se_bl)) sb_nil))))))
    (sb_cons (ss_par2 (k := 9) (l := 10) rfl nd rfl rfl (by decide) rfl rfl (sa_cons (se_callT b_tuple T.n_tuple (by decide +kernel) (sa_cons (se_comp (own := [("_law_some", 7)]) (g := (.nm 7)) rfl nd (si_seq (se_var (i := 2))) (blkOk_by (own := [("_law_some", 7)]) (N := N_law) (sc := defScope st_law) (by decide +kernel)) (fun _ _ _ _ _ => pg_name (i := 7) nd rfl (Or.inl rfl)) (fun _ _ _ _ _ => sts_nil) (fun _ _ _ _ _ => (se_ix o_ix (se_plain (se_var (i := 7))) se_int))) sa_nil)) (sa_cons (se_callT b_tuple T.n_tuple (by decide +kernel) (sa_cons (se_comp (own := [("_law_some", 7)]) (g := (.nm 7)) rfl nd (si_seq (se_var (i := 2))) (blkOk_by (own := [("_law_some", 7)]) (N := N_law) (sc := defScope st_law) (by decide +kernel)) (fun _ _ _ _ _ => pg_name (i := 7) nd rfl (Or.inl rfl)) (fun _ _ _ _ _ => sts_nil) (fun _ _ _ _ _ => (se_ix o_ix (se_plain (se_var (i := 7))) (se_op1 o_neg se_int)))) sa_nil)) sa_nil)))
    (sb_one (ss_ret (se_cmp (o_eq hr.units) (se_lst (sa_cons (se_ix o_ix (se_var (i := 3)) se_int) (sa_cons (se_ix o_ix (se_var (i := 3)) se_int) (sa_cons (se_ix o_ix (se_var (i := 3)) (se_op1 o_neg se_int)) sa_nil)))) (se_lst (sa_cons (se_var (i := 9)) (sa_cons (se_op2 o_add (se_sl (se_var (i := 9)) so_none (so_some se_int)) (se_tup (sa_cons se_str sa_nil))) (sa_cons (se_var (i := 10)) sa_nil)))))))))))))))
theorem txt_of {P : Program} {w : World} {K : PySem.W.Frag} {h h2 base : Heap} {mg : Str → Option Value} (X : K.In h) (G : h.Ns mainGlobals mg) (c : He.SaysX hfa hfn hts htf hex w h2 K) (TB : ∀ p ∈ htf.map (He.cT K), LamX.TabB base mg p.1 p.2) : Txt P w K mg base (clK K w) := by
  have cd := c.t.d
  have cm : ∀ b ∈ [gcB K "CHOICES" c_CHOICES, tfB K htf], b = true := fun b hb => List.all_eq_true.mp c.more b hb
  exact {
    hw := rfl
    d_need_rule := defAt_of X G cd 0 0 rfl rfl fun _ _ _ _ _ _ us hl => match us, hl with | [_], _ => rfl
    d_all_rules := defAt_of X G cd 1 1 rfl rfl fun _ _ _ _ _ _ us hl => match us, hl with | [], _ => rfl
    d__law_mixed := defAt_of X G cd 2 2 rfl rfl fun _ _ _ _ _ _ us hl => match us, hl with | [_, _], _ => rfl
    d__law_begin := defAt_of X G cd 3 3 rfl rfl fun _ _ _ _ _ _ us hl => match us, hl with | [_], _ => rfl
    d__law_draw := defAt_of X G cd 4 4 rfl rfl fun _ _ _ _ _ _ us hl => match us, hl with | [_, _], _ => rfl
    d__law_rule := defAt_of X G cd 5 5 rfl rfl fun _ _ _ _ _ _ us hl => match us, hl with | [_], _ => rfl
    d_law := defAt_of X G cd 6 6 rfl rfl fun _ _ _ _ _ _ us hl => match us, hl with | [_], _ => rfl
    n_dict := He.free_ok X G (cd.fact 7 (f := .free "dict") rfl)
    n_enumerate := He.free_ok X G (cd.fact 8 (f := .free "enumerate") rfl)
    n_int := He.free_ok X G (cd.fact 9 (f := .free "int") rfl)
    n_isinstance := He.free_ok X G (cd.fact 10 (f := .free "isinstance") rfl)
    n_len := He.free_ok X G (cd.fact 11 (f := .free "len") rfl)
    n_list := He.free_ok X G (cd.fact 12 (f := .free "list") rfl)
    n_range := He.free_ok X G (cd.fact 13 (f := .free "range") rfl)
    n_str := He.free_ok X G (cd.fact 14 (f := .free "str") rfl)
    n_tuple := He.free_ok X G (cd.fact 15 (f := .free "tuple") rfl)
    n_zip := He.free_ok X G (cd.fact 16 (f := .free "zip") rfl)
    c_CHOICES := gcB_ok X G (cm _ (List.mem_of_getElem? (i := 0) rfl))
  }
theorem facts {P : Program} {w : World} {K : PySem.W.Frag} {h h2 : Heap} {mg : Str → Option Value} {f : Addr} (X : K.In h) (G : h.Ns mainGlobals mg) (hfa_ : mg ("law" : Str) = some (.ref f)) (c : He.SaysX hfa hfn hts htf hex w h2 K) :
    ∃ fd : FuncData, (∀ (s : Shared) (v : Value), BindsTo s fd ⟨[v], []⟩ [("_law_script", v)]) ∧ ∀ base : Heap, K.In base → base.Ns mainGlobals mg → (∀ p ∈ htf.map (He.cT K), LamX.TabB base mg p.1 p.2) → FnG true P w K mg base 4 f fd ["_law_script"] (spM K (clK K w) 1 f_law) := by
  have cd := c.t.d
  obtain ⟨fd, F⟩ := cd.def_ 6 (d := defD "law" st_law) rfl
  have e := hfa_.symm.trans (He.glo_ok X G (cd.fact 6 (f := .glo "law") rfl))
  cases e
  have b := FunD.bindsA (ps := ["_law_script"]) F fun _ _ _ _ _ _ us hl => match us, hl with | [_], _ => rfl
  exact ⟨fd, fun s v => b s [v] rfl, fun base _ _ TB => law_ok (txt_of X G c TB) (fun_of F)⟩
end K03
open PySem PySem.W PySem.Calls PyProof.Rows
theorem PySem.Challenge.cw_earlyreads_k03_rules_by_hand_holds : PySem.Challenge.rw_earlyreads_k03_rules_by_hand.Holds := by
  w_on; o_law
  refine HandSHeadRun.head_any (r := OpenLaw.row PySem.Challenge.rw_earlyreads_k03_rules_by_hand) (q := view (OpenLaw.row PySem.Challenge.rw_earlyreads_k03_rules_by_hand).prog [37]) (H := K03.hk) (ob := K03.hob) (M := 6000) (loose := K03.hloose) (d := HandSHeadRun.topDef (OpenLaw.row PySem.Challenge.rw_earlyreads_k03_rules_by_hand).prog 37) (kwd := []) K03.hob_eq
    (by kernel_rfl) (fun s => by kernel_rfl) K03.hrun (by kernel_rfl) (by kernel_rfl) (by kernel_rfl) (by rfl) (by first | assumption | decide +kernel) (by decide +kernel) ⟨rfl, rfl, rfl, rfl, rfl, by decide +kernel⟩ ?hw ?hc
  case hw => w_witness2
  case hc =>
    refine DS.walk_ofT (l := PySem.Challenge.rw_earlyreads_k03_rules_by_hand) (n := 63) (k := 4) (x := "_law_script") rfl (by decide) (by kernel_rfl) ⟨rfl, by decide, by decide⟩ ?F (fun w H s e s' h => DS.cx_end h)
    intro w mg fa h Y G hmg0
    obtain ⟨K, KX, c⟩ := Y
    have hmg : mg ("law" : PySem.Str) = some (.ref fa) := by
      have e : (HandSHeadRun.topDef (OpenLaw.row PySem.Challenge.rw_earlyreads_k03_rules_by_hand).prog 37).name = ("law" : PySem.Str) := by kernel_rfl
      rw [← e]
      exact hmg0
    obtain ⟨fd, hb, hF⟩ := K03.facts (P := (PySem.Challenge.rw_earlyreads_k03_rules_by_hand).prog) (w := w) KX G hmg c
    exact ⟨K, K03.htf.map (He.cT K), fd, DS.spM K (K03.clK K w) 1 K03.f_law, KX, DS.cds_of KX c, hb, fun H a ns hl hO hS => DS.sp_endT hO hS (K03.law_true ns hl) (DS.tfT_in (tf := K03.htf)), hF⟩
