import PyProof.Rows.All
import Wide.All
import OpenK.AllK
import Wide.FinOn
import HandS.ForMost
import HandS.ForExc
import HandS.Star
import HandS.Walk
import HandS.TupAny
import HandS.TupMul
import HandS.Deep
import HandS.CallSlots
import HandS.IsInst
import HandS.Zip
import HandS.Style
import HandS.More
import KE.GoesEnum
import KE.GoesMore
import HandS.Defaults
import HandS.Head0
import HandS.Head1
import HandS.Head2
import HandS.HeadEnd
import HandS.HeadHook1
import HandS.HeadHook2
import HandS.HeadHook3
import HandS.HeadHook4
import PySem.Challenge.RW_earlyreads_k01_whole_programs
set_option Elab.async false
set_option linter.all false
set_option maxRecDepth 100000
set_option maxHeartbeats 4000000
/-! DSA: values as trees, a heap by numbers, the relation to the hand layer's heap. -/
namespace DS
open PySem PySem.Spec PyProof.Rows L2

inductive D where
  | non
  | bl (b : Bool)
  | int (i : Int)
  | str (x : Str)
  | tup (xs : List D)
  | ref (n : Nat)
  | sl (xs : List D)

inductive O where
  | lst (xs : List D)
  | dct (kvs : List (Key × D))
  | dtt (kvs : List (List Key × D))
  | ins (c : Nat) (fs : List (Str × D))

abbrev Hs := List O
abbrev En := List (Option D)

/-- an exception: its class's number, its fields -/
structure Ex where
  cls : Nat
  fs : List (Str × D)

inductive R (α : Type) where
  | ok (a : α) (h : Hs)
  | exc (x : Ex) (h : Hs)
  | bad
def R.bind {α β : Type} (r : R α) (f : α → Hs → R β) : R β :=
  match r with
  | .ok a h => f a h
  | .exc x h => .exc x h
  | .bad => .bad
@[simp] theorem bind_ok {α β : Type} (a : α) (h : Hs) (f : α → Hs → R β) : (R.ok a h).bind f = f a h := rfl
@[simp] theorem bind_exc {α β : Type} (x : Ex) (h : Hs) (f : α → Hs → R β) : (R.exc x h : R α).bind f = .exc x h := rfl
@[simp] theorem bind_bad {α β : Type} (f : α → Hs → R β) : (R.bad : R α).bind f = .bad := rfl

/-! ### relation -/
/-- a list that nobody changes -/
def Stl (K : PySem.W.Frag) (H : Hp) (a : Addr) (xs : List V) : Prop :=
  (∃ o, H a = some (.frz o (.lst xs))) ∨ ∃ (o : Obj) (its : Array Value) (n : Nat), K.lookup a = some o ∧ o.cls = .type "list" ∧ o.dict = none ∧ o.data = .seq its n ∧ its.size ≤ sizeLine ∧ Vals xs its.toList
theorem Stl.sql {K : PySem.W.Frag} {H : Hp} {a : Addr} {xs : List V} (h : Stl K H a xs) : SqL K H a xs := by
  rcases h with ⟨o, h⟩ | h
  · exact .inl (.inr ⟨o, h⟩)
  · exact .inr h
section
variable (K : PySem.W.Frag) (H : Hp) (mu : List Addr)
mutual
inductive Rp : D → V → Prop
  | non : Rp .non .non
  | bl (b : Bool) : Rp (.bl b) (.bl b)
  | int (i : Int) : Rp (.int i) (.int i)
  | str (x : Str) : Rp (.str x) (.str x)
  | tup {a : Addr} {xs : List V} {ds : List D} : SqT K H a xs → RpA ds xs → Rp (.tup ds) (.ref a)
  | ref {n : Nat} {a : Addr} : mu[n]? = some a → Rp (.ref n) (.ref a)
  | sl {a : Addr} {xs : List V} {ds : List D} : Stl K H a xs → RpA ds xs → Rp (.sl ds) (.ref a)
inductive RpA : List D → List V → Prop
  | nil : RpA [] []
  | cons {d : D} {v : V} {ds : List D} {vs : List V} : Rp d v → RpA ds vs → RpA (d :: ds) (v :: vs)
end
def RpP {κ : Type} : List (κ × D) → List (κ × V) → Prop := Paired fun (p : κ × D) (q : κ × V) => p.1 = q.1 ∧ Rp K H mu p.2 q.2
def OR (cl : Nat → Addr) (a : Addr) : O → Prop
  | .lst ds => ∃ xs, H a = some (.lst xs) ∧ RpA K H mu ds xs
  | .dct kvs => ∃ ks, H a = some (.dK ks) ∧ RpP K H mu kvs ks
  | .dtt kvs => ∃ ks, H a = some (.dT ks) ∧ RpP K H mu kvs ks
  | .ins c fs => ∃ dx gs, H a = some (.ins (cl c) dx gs) ∧ RpP K H mu fs gs
structure HR (cl : Nat → Addr) (h : Hs) : Prop where
  len : mu.length = h.length
  nd : mu.Nodup
  obj : ∀ (n : Nat) (o : O) (a : Addr), h[n]? = some o → mu[n]? = some a → OR K H mu cl a o
def ER (env : En) (sg : L2.St) : Prop := env.length = sg.length ∧ ∀ (i : Nat) (d : D), env[i]? = some (some d) → ∃ v, sg[i]? = some (some v) ∧ Rp K H mu d v
end

/-- from H, mu to H', mu': what is not in mu stays, mu grows -/
structure Ext (H : Hp) (mu : List Addr) (H' : Hp) (mu' : List Addr) : Prop where
  frame : ∀ a o, H a = some o → a ∉ mu → H' a = some o
  tup : ∀ a xs, H a = some (.tup xs) → H' a = some (.tup xs)
  frz : ∀ a o u, H a = some (.frz o u) → H' a = some (.frz o u)
  pre : mu <+: mu'
  new : ∀ a ∈ mu', a ∉ mu → H a = none

theorem Ext.refl (H : Hp) (mu : List Addr) : Ext H mu H mu :=
  ⟨fun _ _ h _ => h, fun _ _ h => h, fun _ _ _ h => h, List.prefix_refl _, fun _ h n => absurd h n⟩
theorem Ext.trans {H H1 H2 : Hp} {mu mu1 mu2 : List Addr} (a : Ext H mu H1 mu1) (b : Ext H1 mu1 H2 mu2) : Ext H mu H2 mu2 where
  frame := fun c o e n => b.frame c o (a.frame c o e n) fun hm => by
    have := a.new c hm n
    rw [e] at this; cases this
  tup := fun c xs e => b.tup c xs (a.tup c xs e)
  frz := fun c o u e => b.frz c o u (a.frz c o u e)
  pre := a.pre.trans b.pre
  new := fun c hm n => by
    by_cases h1 : c ∈ mu1
    · exact a.new c h1 n
    · cases q : H c with
      | none => rfl
      | some o =>
        have := b.new c hm h1
        rw [a.frame c o q n] at this; cases this
/-- what values lean on -/
structure Mo (H : Hp) (mu : List Addr) (H' : Hp) (mu' : List Addr) : Prop where
  tup : ∀ a xs, H a = some (.tup xs) → H' a = some (.tup xs)
  frz : ∀ a o u, H a = some (.frz o u) → H' a = some (.frz o u)
  pre : mu <+: mu'
theorem Ext.mo {H H' : Hp} {mu mu' : List Addr} (e : Ext H mu H' mu') : Mo H mu H' mu' := ⟨e.tup, e.frz, e.pre⟩
theorem Mo.get {H H' : Hp} {mu mu' : List Addr} (e : Mo H mu H' mu') {n : Nat} {a : Addr} (h : mu[n]? = some a) : mu'[n]? = some a := by
  obtain ⟨t, rfl⟩ := e.pre
  rw [List.getElem?_append_left (List.getElem?_eq_some_iff.mp h).1]; exact h
theorem Mo.sqt {K : PySem.W.Frag} {H H' : Hp} {mu mu' : List Addr} (e : Mo H mu H' mu') {a : Addr} {xs : List V} (h : SqT K H a xs) : SqT K H' a xs := by
  rcases h with (h | ⟨o, h⟩) | h
  · exact .inl (.inl (e.tup _ _ h))
  · exact .inl (.inr ⟨o, e.frz _ _ _ h⟩)
  · exact .inr h
theorem Mo.stl {K : PySem.W.Frag} {H H' : Hp} {mu mu' : List Addr} (e : Mo H mu H' mu') {a : Addr} {xs : List V} (h : Stl K H a xs) : Stl K H' a xs := by
  rcases h with ⟨o, h⟩ | h
  · exact .inl ⟨o, e.frz _ _ _ h⟩
  · exact .inr h
theorem Ext.get {H H' : Hp} {mu mu' : List Addr} (e : Ext H mu H' mu') {n : Nat} {a : Addr} (h : mu[n]? = some a) : mu'[n]? = some a := by
  obtain ⟨t, rfl⟩ := e.pre
  rw [List.getElem?_append_left (List.getElem?_eq_some_iff.mp h).1]; exact h
theorem Ext.sqt {K : PySem.W.Frag} {H H' : Hp} {mu mu' : List Addr} (e : Ext H mu H' mu') {a : Addr} {xs : List V} (h : SqT K H a xs) : SqT K H' a xs := by
  rcases h with (h | ⟨o, h⟩) | h
  · exact .inl (.inl (e.tup _ _ h))
  · exact .inl (.inr ⟨o, e.frz _ _ _ h⟩)
  · exact .inr h

mutual
theorem Rp.mo {K : PySem.W.Frag} {H H' : Hp} {mu mu' : List Addr} (e : Mo H mu H' mu') : ∀ {d : D} {v : V}, Rp K H mu d v → Rp K H' mu' d v
  | _, _, .non => .non
  | _, _, .bl b => .bl b
  | _, _, .int i => .int i
  | _, _, .str x => .str x
  | _, _, .tup s r => .tup (e.sqt s) (RpA.mo e r)
  | _, _, .ref h => .ref (e.get h)
  | _, _, .sl s r => .sl (e.stl s) (RpA.mo e r)
theorem RpA.mo {K : PySem.W.Frag} {H H' : Hp} {mu mu' : List Addr} (e : Mo H mu H' mu') : ∀ {ds : List D} {vs : List V}, RpA K H mu ds vs → RpA K H' mu' ds vs
  | _, _, .nil => .nil
  | _, _, .cons a b => .cons (Rp.mo e a) (RpA.mo e b)
end
theorem Rp.mono {K : PySem.W.Frag} {H H' : Hp} {mu mu' : List Addr} (e : Ext H mu H' mu') {d : D} {v : V} (r : Rp K H mu d v) : Rp K H' mu' d v := r.mo e.mo
theorem RpA.mono {K : PySem.W.Frag} {H H' : Hp} {mu mu' : List Addr} (e : Ext H mu H' mu') {d : List D} {v : List V} (r : RpA K H mu d v) : RpA K H' mu' d v := r.mo e.mo
theorem RpP.mo {K : PySem.W.Frag} {H H' : Hp} {mu mu' : List Addr} (e : Mo H mu H' mu') {κ : Type} {ks : List (κ × D)} {vs : List (κ × V)} (h : RpP K H mu ks vs) : RpP K H' mu' ks vs :=
  Paired.mapP h fun _ _ z => ⟨z.1, z.2.mo e⟩
theorem RpP.mono {K : PySem.W.Frag} {H H' : Hp} {mu mu' : List Addr} (e : Ext H mu H' mu') {κ : Type} {ks : List (κ × D)} {vs : List (κ × V)} (h : RpP K H mu ks vs) : RpP K H' mu' ks vs :=
  Paired.mapP h fun _ _ z => ⟨z.1, z.2.mono e⟩
theorem ER.mono {K : PySem.W.Frag} {H H' : Hp} {mu mu' : List Addr} (e : Ext H mu H' mu') {env : En} {sg : L2.St} (h : ER K H mu env sg) : ER K H' mu' env sg :=
  ⟨h.1, fun i d q => let ⟨v, a, b⟩ := h.2 i d q; ⟨v, a, b.mono e⟩⟩
theorem RpA.length {K : PySem.W.Frag} {H : Hp} {mu : List Addr} : ∀ {ds : List D} {vs : List V}, RpA K H mu ds vs → ds.length = vs.length
  | _, _, .nil => rfl
  | _, _, .cons _ b => by simp [RpA.length b]
theorem RpA.get {K : PySem.W.Frag} {H : Hp} {mu : List Addr} : ∀ {ds : List D} {vs : List V} {i : Nat} {d : D}, RpA K H mu ds vs → ds[i]? = some d → ∃ v, vs[i]? = some v ∧ Rp K H mu d v
  | _, _, _, _, .nil, h => by simp at h
  | _, _, 0, _, .cons a b, h => by simp at h; subst h; exact ⟨_, rfl, a⟩
  | _, _, i + 1, d, .cons a b, h => by
    obtain ⟨v, h1, h2⟩ := RpA.get (i := i) (d := d) b (by simpa using h)
    exact ⟨v, by simpa using h1, h2⟩
theorem RpA.append {K : PySem.W.Frag} {H : Hp} {mu : List Addr} : ∀ {ds es : List D} {vs us : List V}, RpA K H mu ds vs → RpA K H mu es us → RpA K H mu (ds ++ es) (vs ++ us)
  | _, _, _, _, .nil, h => h
  | _, _, _, _, .cons a b, h => .cons a (RpA.append b h)
theorem RpA.one {K : PySem.W.Frag} {H : Hp} {mu : List Addr} {d : D} {v : V} (h : Rp K H mu d v) : RpA K H mu [d] [v] := .cons h .nil
theorem RpA.set {K : PySem.W.Frag} {H : Hp} {mu : List Addr} {d : D} {v : V} (r : Rp K H mu d v) : ∀ {ds : List D} {vs : List V} (i : Nat), RpA K H mu ds vs → RpA K H mu (ds.set i d) (vs.set i v)
  | _, _, _, .nil => .nil
  | _, _, 0, .cons _ b => .cons r b
  | _, _, i + 1, .cons a b => .cons a (RpA.set r i b)
theorem RpA.take {K : PySem.W.Frag} {H : Hp} {mu : List Addr} : ∀ {ds : List D} {vs : List V} (n : Nat), RpA K H mu ds vs → RpA K H mu (ds.take n) (vs.take n)
  | _, _, 0, _ => by simp; exact .nil
  | _, _, _ + 1, .nil => .nil
  | _, _, n + 1, .cons a b => .cons a (RpA.take n b)
theorem RpA.drop {K : PySem.W.Frag} {H : Hp} {mu : List Addr} : ∀ {ds : List D} {vs : List V} (n : Nat), RpA K H mu ds vs → RpA K H mu (ds.drop n) (vs.drop n)
  | _, _, 0, h => h
  | _, _, _ + 1, .nil => .nil
  | _, _, n + 1, .cons _ b => RpA.drop n b
theorem RpA.dropLast {K : PySem.W.Frag} {H : Hp} {mu : List Addr} {ds : List D} {vs : List V} (h : RpA K H mu ds vs) : RpA K H mu ds.dropLast vs.dropLast := by
  rw [List.dropLast_eq_take, List.dropLast_eq_take, ← h.length]; exact h.take _
theorem RpA.nil_iff {K : PySem.W.Frag} {H : Hp} {mu : List Addr} {ds : List D} {vs : List V} (h : RpA K H mu ds vs) : ds = [] ↔ vs = [] := by
  cases h <;> simp
theorem RpA.flat {K : PySem.W.Frag} {H : Hp} {mu : List Addr} {ds : List D} {vs : List V} (h : RpA K H mu ds vs) : ∀ n : Nat, RpA K H mu (List.replicate n ds).flatten (List.replicate n vs).flatten
  | 0 => .nil
  | n + 1 => by rw [List.replicate_succ, List.replicate_succ, List.flatten_cons, List.flatten_cons]; exact h.append (h.flat n)

section
variable {K : PySem.W.Frag} {cl : Nat → Addr} {H H' : Hp} {mu mu' : List Addr} {h : Hs}
/-- what is kept of an object: itself, or the written part's list -/
theorem OR.mo (e : Mo H mu H' mu') {a : Addr} {o : O} (k : ∀ u, H a = some u → H' a = some u) (r : OR K H mu cl a o) : OR K H' mu' cl a o := by
  cases o with
  | lst ds => obtain ⟨xs, h1, h2⟩ := r; exact ⟨xs, k _ h1, h2.mo e⟩
  | dct ks => obtain ⟨xs, h1, h2⟩ := r; exact ⟨xs, k _ h1, h2.mo e⟩
  | dtt ks => obtain ⟨xs, h1, h2⟩ := r; exact ⟨xs, k _ h1, h2.mo e⟩
  | ins c fs => obtain ⟨dx, gs, h1, h2⟩ := r; exact ⟨dx, gs, k _ h1, h2.mo e⟩
theorem OR.mono (e : Ext H mu H' mu') {a : Addr} {o : O} (k : ∀ u, H a = some u → H' a = some u) (r : OR K H mu cl a o) : OR K H' mu' cl a o := r.mo e.mo k
theorem HR.at (r : HR K H mu cl h) {n : Nat} {o : O} (e : h[n]? = some o) : ∃ a, mu[n]? = some a ∧ OR K H mu cl a o := by
  have hn : n < h.length := (List.getElem?_eq_some_iff.mp e).1
  obtain ⟨a, ha⟩ : ∃ a, mu[n]? = some a := ⟨mu[n]'(by rw [r.len]; exact hn), by simp [r.len, hn]⟩
  exact ⟨a, ha, r.obj n o a e ha⟩
/-- a new thing that is no object of h: a tuple, an iterator's pair -/
theorem Ext.tupled {p : Addr} {o : HO} (hp : H p = none) : Ext H mu (upd H p o) mu :=
  ⟨fun a u e _ => by rw [upd_ne (ne_of_none e hp)]; exact e, fun a xs e => by rw [upd_ne (ne_of_none e hp)]; exact e, fun a u w e => by rw [upd_ne (ne_of_none e hp)]; exact e, List.prefix_refl _, fun _ h n => absurd h n⟩
theorem HR.tupled {p : Addr} {o : HO} (hp : H p = none) (r : HR K H mu cl h) : HR K (upd H p o) mu cl h :=
  ⟨r.len, r.nd, fun n u a e1 e2 => (r.obj n u a e1 e2).mono (Ext.tupled hp) fun w q => by rw [upd_ne (ne_of_none q hp)]; exact q⟩
theorem Ext.allocd {p : Addr} {o : HO} (hp : H p = none) : Ext H mu (upd H p o) (mu ++ [p]) :=
  ⟨(Ext.tupled (mu := mu) hp).frame, (Ext.tupled (mu := mu) hp).tup, (Ext.tupled (mu := mu) hp).frz, List.prefix_append _ _, fun a ha n => by
    rcases List.mem_append.mp ha with q | q
    · exact absurd q n
    · have : a = p := by simpa using q
      rw [this]; exact hp⟩
theorem OR.some {a : Addr} {o : O} (r : OR K H mu cl a o) : ∃ u, H a = some u := by
  cases o with
  | lst ds => obtain ⟨xs, h1, h2⟩ := r; exact ⟨_, h1⟩
  | dct ks => obtain ⟨xs, h1, h2⟩ := r; exact ⟨_, h1⟩
  | dtt ks => obtain ⟨xs, h1, h2⟩ := r; exact ⟨_, h1⟩
  | ins c fs => obtain ⟨dx, gs, h1, h2⟩ := r; exact ⟨_, h1⟩
theorem HR.mem_some (r : HR K H mu cl h) {a : Addr} (ha : a ∈ mu) : ∃ u, H a = some u := by
  obtain ⟨n, hn, e⟩ := List.getElem_of_mem ha
  have hn' : n < h.length := by rw [← r.len]; exact hn
  exact (r.obj n h[n] a (by simp [hn']) (by simp [hn, e])).some
theorem HR.fresh (r : HR K H mu cl h) {p : Addr} (hp : H p = none) : p ∉ mu := fun hm => by
  obtain ⟨u, e⟩ := r.mem_some hm
  rw [hp] at e; cases e
/-- an object that stands apart becomes one of h -/
theorem HR.joined {p : Addr} {o : HO} {u : O} (hm : p ∉ mu) (ht : ∀ xs, H p ≠ some (.tup xs)) (hf : ∀ x w, H p ≠ some (.frz x w)) (r : HR K H mu cl h) (new : OR K (upd H p o) (mu ++ [p]) cl p u) : HR K (upd H p o) (mu ++ [p]) cl (h ++ [u]) where
  len := by simp [r.len]
  nd := by
    rw [List.nodup_append]
    refine ⟨r.nd, by simp, fun a ha b hb => ?_⟩
    have : b = p := by simpa using hb
    subst this
    intro q; subst q; exact hm ha
  obj := fun n v a e1 e2 => by
    have M : Mo H mu (upd H p o) (mu ++ [p]) := ⟨fun a xs e => by
      have : a ≠ p := fun z => by subst z; exact ht _ e
      rw [upd_ne this]; exact e, fun a x w e => by
      have : a ≠ p := fun z => by subst z; exact hf _ _ e
      rw [upd_ne this]; exact e, List.prefix_append _ _⟩
    by_cases hn : n < h.length
    · rw [List.getElem?_append_left hn] at e1
      rw [List.getElem?_append_left (by rw [r.len]; exact hn)] at e2
      have ne : a ≠ p := fun z => by subst z; exact hm (List.mem_of_getElem? e2)
      exact (r.obj n v a e1 e2).mo M fun w q => by rw [upd_ne ne]; exact q
    · have hn' : h.length ≤ n := Nat.le_of_not_lt hn
      rw [List.getElem?_append_right hn'] at e1
      rw [List.getElem?_append_right (by rw [r.len]; exact hn')] at e2
      have e0 : n - h.length = 0 := by
        cases q : n - h.length with
        | zero => rfl
        | succ k => rw [q] at e1; simp at e1
      rw [e0] at e1
      rw [r.len, e0] at e2
      simp at e1 e2
      subst e1; subst e2
      exact new
/-- a new object of h -/
theorem HR.allocd {p : Addr} {o : HO} {u : O} (hp : H p = none) (r : HR K H mu cl h) (new : OR K (upd H p o) (mu ++ [p]) cl p u) : HR K (upd H p o) (mu ++ [p]) cl (h ++ [u]) :=
  r.joined (r.fresh hp) (fun _ z => by rw [hp] at z; cases z) (fun _ _ z => by rw [hp] at z; cases z) new
/-- .. where p was new for H₀ -/
theorem Ext.joined {H0 : Hp} {mu0 : List Addr} {p : Addr} {o : HO} (e : Ext H0 mu0 H mu) (hp : H0 p = none) : Ext H0 mu0 (upd H p o) (mu ++ [p]) where
  frame := fun a u q n => by
    rw [upd_ne (ne_of_none q hp)]; exact e.frame a u q n
  tup := fun a u q => by
    rw [upd_ne (ne_of_none q hp)]; exact e.tup a u q
  frz := fun a u w q => by
    rw [upd_ne (ne_of_none q hp)]; exact e.frz a u w q
  pre := e.pre.trans (List.prefix_append _ _)
  new := fun a ha n => by
    rcases List.mem_append.mp ha with q | q
    · exact e.new a q n
    · have : a = p := by simpa using q
      rw [this]; exact hp
/-- an object of h is written -/
theorem Ext.written {n : Nat} {a : Addr} {o o' : HO} (ha : mu[n]? = some a) (he : H a = some o) (nt : ∀ xs, o ≠ .tup xs) (nf : ∀ x u, o ≠ .frz x u) : Ext H mu (upd H a o') mu where
  frame := fun b u e hn => by
    have hb : b ≠ a := fun q => by subst q; exact hn (List.mem_of_getElem? ha)
    rw [upd_ne hb]; exact e
  tup := fun b xs e => by
    have hb : b ≠ a := fun q => by subst q; rw [he] at e; exact nt _ (Option.some.inj e)
    rw [upd_ne hb]; exact e
  frz := fun b x u e => by
    have hb : b ≠ a := fun q => by subst q; rw [he] at e; exact nf _ _ (Option.some.inj e)
    rw [upd_ne hb]; exact e
  pre := List.prefix_refl _
  new := fun _ h n => absurd h n
theorem HR.written {n : Nat} {a : Addr} {o o' : HO} {u' : O} (r : HR K H mu cl h) (ha : mu[n]? = some a) (he : H a = some o) (nt : ∀ xs, o ≠ .tup xs) (nf : ∀ x u, o ≠ .frz x u) (new : OR K (upd H a o') mu cl a u') :
    HR K (upd H a o') mu cl (h.set n u') where
  len := by simp [r.len]
  nd := r.nd
  obj := fun m v b e1 e2 => by
    by_cases hm : m = n
    · subst hm
      rw [ha] at e2; cases e2
      have hlt : m < h.length := by have := (List.getElem?_eq_some_iff.mp e1).1; simpa using this
      rw [List.getElem?_set_self hlt] at e1
      cases e1
      exact new
    · rw [List.getElem?_set_ne (Ne.symm hm)] at e1
      refine (r.obj m v b e1 e2).mono (Ext.written ha he nt nf) fun w q => ?_
      have hb : b ≠ a := fun z => by
        subst z
        obtain ⟨h1, g1⟩ := List.getElem?_eq_some_iff.mp e2
        obtain ⟨h2, g2⟩ := List.getElem?_eq_some_iff.mp ha
        exact hm ((List.getElem_inj r.nd).mp (g1.trans g2.symm))
      rw [upd_ne hb]; exact q
end
end DS

set_option Elab.async false
set_option linter.all false
set_option maxRecDepth 100000
set_option maxHeartbeats 4000000
/-! DSB: readings, expressions. -/
namespace DS
open PySem PySem.Spec PyProof.Rows L2

abbrev ME := En → Hs → R D
abbrev MA := En → Hs → R (List D)
abbrev MT := En → Hs → R Bool
abbrev Sg := List (Option V)

/-- how an exception lies -/
def XR (K : PySem.W.Frag) (cl : Nat → Addr) (H : Hp) (mu : List Addr) (x : Ex) (c : Value) (dd : Option Addr) : Prop :=
  c = .ref (cl x.cls) ∧ ((x.fs = [] ∧ dd = none) ∨ ∃ d gs, dd = some d ∧ d ∉ mu ∧ H d = some (.xd gs) ∧ RpP K H mu x.fs gs)

structure Rel (K : PySem.W.Frag) (cl : Nat → Addr) (H : Hp) (mu : List Addr) (h : Hs) (env : En) (sg : Sg) : Prop where
  hr : HR K H mu cl h
  er : ER K H mu env sg

def Post {α β : Type} (rl : Hp → List Addr → α → β → Prop) (K : PySem.W.Frag) (cl : Nat → Addr) (W : WX) (sg : Sg) (H : Hp) (mu : List Addr) (r : R α) (Q : β → Hp → Prop) : Prop :=
  match r with
  | .ok a h' => ∀ b H' mu', Ext H mu H' mu' → HR K H' mu' cl h' → rl H' mu' a b → Q b H'
  | .exc x h' => ∀ c dd H' mu', Ext H mu H' mu' → HR K H' mu' cl h' → XR K cl H' mu' x c dd → W c dd sg H'
  | .bad => False

section
variable {α β γ δ : Type} {rl : Hp → List Addr → α → β → Prop} {rl' : Hp → List Addr → γ → δ → Prop} {K : PySem.W.Frag} {cl : Nat → Addr} {W : WX} {sg : Sg} {H H1 : Hp} {mu mu1 : List Addr} {r : R α}
theorem Post.ext {Q : β → Hp → Prop} (e : Ext H mu H1 mu1) (p : Post rl K cl W sg H mu r Q) : Post rl K cl W sg H1 mu1 r Q := by
  cases r with
  | ok a h' => exact fun b H' mu' e' hr rb => p b H' mu' (e.trans e') hr rb
  | exc x h' => exact fun c dd H' mu' e' hr rb => p c dd H' mu' (e.trans e') hr rb
  | bad => exact p
theorem Post.mono {Q Q' : β → Hp → Prop} (hq : ∀ b H, Q b H → Q' b H) (p : Post rl K cl W sg H mu r Q) : Post rl K cl W sg H mu r Q' := by
  cases r with
  | ok a h' => exact fun b H' mu' e' hr rb => hq _ _ (p b H' mu' e' hr rb)
  | exc x h' => exact p
  | bad => exact p
theorem Post.bind {f : α → Hs → R γ} {Q : δ → Hp → Prop} (p : Post rl' K cl W sg H mu (r.bind f) Q) :
    Post rl K cl W sg H mu r (fun b H1 => ∃ mu1 a h1, Ext H mu H1 mu1 ∧ HR K H1 mu1 cl h1 ∧ rl H1 mu1 a b ∧ Post rl' K cl W sg H1 mu1 (f a h1) Q) := by
  cases r with
  | ok a h' => exact fun b H' mu' e' hr rb => ⟨mu', a, h', e', hr, rb, Post.ext e' p⟩
  | exc x h' => exact p
  | bad => exact p
end

abbrev rlB : Hp → List Addr → Bool → Bool → Prop := fun _ _ a b => a = b

section
variable (K : PySem.W.Frag) (cl : Nat → Addr) (W : WX)
def tE (m : ME) : TE := fun sg H Q => ∃ mu env h, Rel K cl H mu h env sg ∧ Post (Rp K) K cl W sg H mu (m env h) Q
def tA (m : MA) : TA := fun sg H Q => ∃ mu env h, Rel K cl H mu h env sg ∧ Post (RpA K) K cl W sg H mu (m env h) Q
def tT (m : MT) : TT := fun sg H Q => ∃ mu env h, Rel K cl H mu h env sg ∧ Post rlB K cl W sg H mu (m env h) Q
end
abbrev SE (X : Cx) (cl : Nat → Addr) (W : WX) (e : Expr) (m : ME) : Prop := PE X e (tE X.K cl W m)
abbrev SA (X : Cx) (cl : Nat → Addr) (W : WX) (es : List Expr) (m : MA) : Prop := PA X es (tA X.K cl W m)
abbrev ST (X : Cx) (cl : Nat → Addr) (W : WX) (e : Expr) (m : MT) : Prop := PT X e (tT X.K cl W m)
abbrev SW (X : Cx) (cl : Nat → Addr) (W : WX) (e : Expr) (m : MT) : Prop := PW X e (tT X.K cl W m)

theorem PE.imp {X : Cx} {e : Expr} {t t' : TE} (h : PE X e t) (hi : ∀ sg H Q, t' sg H Q → t sg H Q) : PE X e t' := ⟨fun pins s σ H Q I q => h.run pins s σ H Q I (hi _ _ _ q)⟩
theorem PA.imp {X : Cx} {e : List Expr} {t t' : TA} (h : PA X e t) (hi : ∀ sg H Q, t' sg H Q → t sg H Q) : PA X e t' := ⟨fun ps pins s σ H Q I q => h.run ps pins s σ H Q I (hi _ _ _ q)⟩
theorem PT.imp {X : Cx} {e : Expr} {t t' : TT} (h : PT X e t) (hi : ∀ sg H Q, t' sg H Q → t sg H Q) : PT X e t' := ⟨fun pins s σ H Q I q => h.run pins s σ H Q I (hi _ _ _ q)⟩
theorem PW.imp {X : Cx} {e : Expr} {t t' : TT} (h : PW X e t) (hi : ∀ sg H Q, t' sg H Q → t sg H Q) : PW X e t' := ⟨fun wh pins s σ H Q I q => h.run wh pins s σ H Q I (hi _ _ _ q)⟩

/-! ### combinators -/
def eVar (i : Nat) : ME := fun env h => match env[i]? with | some (some d) => .ok d h | _ => .bad
def eC (d : D) : ME := fun _ h => .ok d h
/-- an operation by values -/
abbrev O1 := D → Hs → Option (D × Hs)
abbrev O2 := D → D → Hs → Option (D × Hs)
abbrev ON := List D → Hs → Option (D × Hs)
def lft : Option (D × Hs) → R D
  | some p => .ok p.1 p.2
  | none => .bad
@[simp] theorem lft_some (d : D) (h : Hs) : lft (some (d, h)) = .ok d h := rfl
@[simp] theorem lft_none : lft none = .bad := rfl
def eOp1 (g : O1) (a : ME) : ME := fun env h => (a env h).bind fun x h1 => lft (g x h1)
def eOp2 (g : O2) (a b : ME) : ME := fun env h => (a env h).bind fun x h1 => (b env h1).bind fun y h2 => lft (g x y h2)
def eOpN (g : ON) (a : MA) : ME := fun env h => (a env h).bind fun xs h1 => lft (g xs h1)
def aNil : MA := fun _ h => .ok [] h
def aCons (a : ME) (b : MA) : MA := fun env h => (a env h).bind fun x h1 => (b env h1).bind fun xs h2 => .ok (x :: xs) h2
def seqOf : D → Hs → Option (List D)
  | .tup xs, _ => some xs
  | .sl xs, _ => some xs
  | .ref n, h => match h[n]? with
    | some (.lst xs) => some xs
    | _ => none
  | _, _ => none
def aStar (a : ME) (b : MA) : MA := fun env h => (a env h).bind fun x h1 => match seqOf x h1 with
  | some xs => (b env h1).bind fun ys h2 => .ok (xs ++ ys) h2
  | none => .bad
def vTup : ON := fun ds h => if ds.length ≤ sizeLine then some (.tup ds, h) else none
def vLst : ON := fun ds h => if ds.length ≤ sizeLine then some (.ref h.length, h ++ [.lst ds]) else none
def tsB (a : ME) : MT := fun env h => (a env h).bind fun x h1 => match x with | .bl b => .ok b h1 | _ => .bad
def tNotM (a : MT) : MT := fun env h => (a env h).bind fun x h1 => .ok (!x) h1
def tAndM (a b : MT) : MT := fun env h => (a env h).bind fun x h1 => if x = true then b env h1 else .ok false h1
def tOrM (a b : MT) : MT := fun env h => (a env h).bind fun x h1 => if x = true then .ok true h1 else b env h1
def eAndM (a b : ME) : ME := fun env h => (a env h).bind fun x h1 => match x with | .bl true => b env h1 | .bl false => .ok (.bl false) h1 | _ => .bad
def eOrM (a b : ME) : ME := fun env h => (a env h).bind fun x h1 => match x with | .bl false => b env h1 | .bl true => .ok (.bl true) h1 | _ => .bad
def eNotM (a : ME) : ME := fun env h => (a env h).bind fun x h1 => match x with | .bl b => .ok (.bl (!b)) h1 | _ => .bad
def eIfM (t : MT) (a b : ME) : ME := fun env h => (t env h).bind fun x h1 => if x = true then a env h1 else b env h1

/-- what an operation by values leaves -/
def PostO (K : PySem.W.Frag) (cl : Nat → Addr) (H : Hp) (mu : List Addr) (r : Option (D × Hs)) (Q : VK) : Prop :=
  match r with
  | some p => ∀ v H' mu', Ext H mu H' mu' → HR K H' mu' cl p.2 → Rp K H' mu' p.1 v → Q v H'
  | none => False
theorem PostO.of {K : PySem.W.Frag} {cl : Nat → Addr} {W : WX} {sg : Sg} {H : Hp} {mu : List Addr} {r : Option (D × Hs)} {Q : VK} (p : Post (Rp K) K cl W sg H mu (lft r) Q) : PostO K cl H mu r Q := by
  cases r with
  | some q => exact p
  | none => exact p
def r1 (K : PySem.W.Frag) (cl : Nat → Addr) (g : O1) : V → Hp → VK → Prop := fun x H Q => ∃ mu h d, HR K H mu cl h ∧ Rp K H mu d x ∧ PostO K cl H mu (g d h) Q
def r2 (K : PySem.W.Frag) (cl : Nat → Addr) (g : O2) : R2 := fun x y H Q => ∃ mu h d e, HR K H mu cl h ∧ Rp K H mu d x ∧ Rp K H mu e y ∧ PostO K cl H mu (g d e h) Q
def rN (K : PySem.W.Frag) (cl : Nat → Addr) (g : ON) : List V → Hp → VK → Prop := fun xs H Q => ∃ mu h ds, HR K H mu cl h ∧ RpA K H mu ds xs ∧ PostO K cl H mu (g ds h) Q

section
variable {X : Cx} {cl : Nat → Addr} {W : WX} {a b c e : Expr} {es : List Expr} {ma mb : ME} {mt mu' : MT} {ms : MA} {pos : Pos}

/-! ### names and constants -/
theorem se_var {i : Nat} {x : Str} (hN : X.N[i]? = some x := by rfl) (hv : Vis X.env.scope x := by first | exact Or.inl rfl | exact Or.inr (Or.inl rfl) | exact Or.inr (Or.inr rfl)) (hd : (x == ("__debug__" : Str)) = false := by decide)
    (hcd : (x == ("__classdict__" : Str)) = false := by decide) : SE X cl W (.Name x pos) (eVar i) :=
  PE.imp (pe_var hN hv hd hcd) fun sg H Q ⟨mu, env, h, rel, p⟩ => by
    unfold eVar at p
    cases q : env[i]? with
    | none => rw [q] at p; exact p.elim
    | some o =>
      cases o with
      | none => rw [q] at p; exact p.elim
      | some d =>
        rw [q] at p
        obtain ⟨v, hv, rv⟩ := rel.er.2 i d q
        exact ⟨v, hv, p v H mu (Ext.refl _ _) rel.hr rv⟩
theorem se_c {t : V} {d : D} (h : PE X e (tC t)) (hd : ∀ H mu, Rp X.K H mu d t) : SE X cl W e (eC d) :=
  PE.imp h fun sg H Q ⟨mu, env, h, rel, p⟩ => p _ _ _ (Ext.refl _ _) rel.hr (hd _ _)
theorem se_int {i j} : SE X cl W (.Constant (.int i) j pos) (eC (.int i)) := se_c pe_int fun _ _ => .int i
theorem se_bl {i j} : SE X cl W (.Constant (.bool i) j pos) (eC (.bl i)) := se_c pe_bl fun _ _ => .bl i
theorem se_non {j} : SE X cl W (.Constant .none j pos) (eC .non) := se_c pe_non fun _ _ => .non
theorem se_str {i j} : SE X cl W (.Constant (.str i) j pos) (eC (.str i)) := se_c pe_str fun _ _ => .str i
/-- a module's constant -/
def GC (K : PySem.W.Frag) (mg : Str → Option Value) (x : Str) (d : D) : Prop := ∃ v u, mg x = some u ∧ RelV v u ∧ ∀ H mu, Rp K H mu d v
theorem se_glob {x : Str} {d : D} (hc : GC X.K X.mg x d) (hg : Gl X x := by rfl) (hd : (x == ("__debug__" : Str)) = false := by decide) : SE X cl W (.Name x pos) (eC d) := by
  obtain ⟨v, u, hm, r, hr⟩ := hc
  exact se_c (pe_glob hg hm r hd) hr

/-! ### operations -/
theorem se_op1 {op : UnaryOp} {g : O1} (ho : UnR X (unaryOp op) (r1 X.K cl g)) (ha : SE X cl W a ma) : SE X cl W (.UnaryOp op a pos) (eOp1 g ma) :=
  PE.imp (pe_un ho ha) fun sg H Q ⟨mu, env, h, rel, p⟩ => ⟨mu, env, h, rel, (Post.bind p).mono fun b H1 ⟨mu1, d, h1, e, hr, rb, p1⟩ => ⟨mu1, h1, d, hr, rb, .of p1⟩⟩
theorem step2 {g : O2} : ∀ (sg : Sg) (H : Hp) (Q : VK), tE X.K cl W (eOp2 g ma mb) sg H Q → tOp (r2 X.K cl g) (tE X.K cl W ma) (tE X.K cl W mb) sg H Q :=
  fun sg H Q ⟨mu, env, h, rel, p⟩ => ⟨mu, env, h, rel, (Post.bind p).mono fun b H1 ⟨mu1, d, h1, e, hr, rb, p1⟩ =>
    ⟨mu1, env, h1, ⟨hr, rel.er.mono e⟩, (Post.bind p1).mono fun b2 H2 ⟨mu2, d2, h2, e2, hr2, rb2, p2⟩ => ⟨mu2, h2, d, d2, hr2, rb.mono e2, rb2, .of p2⟩⟩⟩
theorem se_op2 {op : Operator} {g : O2} (ho : OpR X (binaryOp op) (r2 X.K cl g)) (ha : SE X cl W a ma) (hb : SE X cl W b mb) : SE X cl W (.BinOp a op b pos) (eOp2 g ma mb) := PE.imp (pe_op ho ha hb) step2
theorem se_cmp {op : CmpOp} {g : O2} (ho : OpR X (compareOp op) (r2 X.K cl g)) (ha : SE X cl W a ma) (hb : SE X cl W b mb) (hm : behindInMarks op b = false := by first | exact nomark _ | rfl) : SE X cl W (.Compare a [op] [b] pos) (eOp2 g ma mb) :=
  PE.imp (pe_cmpR ho ha hb hm) step2
theorem se_ix {g : O2} (ho : IxR X (r2 X.K cl g)) (ha : SE X cl W a ma) (hb : SE X cl W b mb) (hs : PlainIx b := by exact fun _ _ => rfl) : SE X cl W (.Subscript a b pos) (eOp2 g ma mb) := PE.imp (pe_ix ho ha hb hs) step2

/-! ### argument lists -/
theorem sa_nil : SA X cl W [] aNil := PA.imp pa_nil fun sg H Q ⟨mu, env, h, rel, p⟩ => p _ _ _ (Ext.refl _ _) rel.hr .nil
theorem sa_cons (ha : SE X cl W e ma) (hr : SA X cl W es ms) (hs : starEach (e :: es) X.env = (false, eval e X.env) :: starEach es X.env := by rfl) : SA X cl W (e :: es) (aCons ma ms) :=
  PA.imp (pa_cons ha hr hs) fun sg H Q ⟨mu, env, h, rel, p⟩ => ⟨mu, env, h, rel, (Post.bind p).mono fun b H1 ⟨mu1, d, h1, e, hr, rb, p1⟩ =>
    ⟨mu1, env, h1, ⟨hr, rel.er.mono e⟩, (Post.bind p1).mono fun b2 H2 ⟨mu2, d2, h2, e2, hr2, rb2, p2⟩ => p2 _ _ _ (Ext.refl _ _) hr2 (.cons (rb.mono e2) rb2)⟩⟩
theorem seqOf_ok {K : PySem.W.Frag} {H : Hp} {mu : List Addr} {h : Hs} {d : D} {v : V} {xs : List D} (hr : HR K H mu cl h) (r : Rp K H mu d v) (e : seqOf d h = some xs) :
    ∃ a ys, v = .ref a ∧ RpA K H mu xs ys ∧ ((SqT K H a ys ∧ d = .tup xs) ∨ SqL K H a ys) := by
  cases r with
  | tup s ra => cases e; exact ⟨_, _, rfl, ra, .inl ⟨s, rfl⟩⟩
  | sl s ra => cases e; exact ⟨_, _, rfl, ra, .inr s.sql⟩
  | @ref n a hn =>
    unfold seqOf at e
    simp only at e
    split at e
    · rename_i ys q
      cases e
      obtain ⟨a', ha', xs', hx, rx⟩ := hr.at q
      rw [hn] at ha'; cases ha'
      exact ⟨_, xs', rfl, rx, .inr (.inl (.inl hx))⟩
    · cases e
  | non => cases e
  | bl _ => cases e
  | int _ => cases e
  | str _ => cases e
theorem sa_star {p : Pos} (ha : SE X cl W e ma) (hr : SA X cl W es ms) (hs : starEach (.Starred e p :: es) X.env = (true, eval e X.env) :: starEach es X.env := by rfl) : SA X cl W (.Starred e p :: es) (aStar ma ms) :=
  PA.imp (StX.pa_star ha hr hs) fun sg H Q ⟨mu, env, h, rel, p⟩ => ⟨mu, env, h, rel, (Post.bind p).mono fun b H1 ⟨mu1, d, h1, e, hr, rb, p1⟩ => by
    cases q : seqOf d h1 with
    | none => rw [q] at p1; exact p1.elim
    | some xs =>
      rw [q] at p1
      obtain ⟨a, ys, rfl, ra, hh⟩ := seqOf_ok hr rb q
      refine ⟨a, ys, rfl, ?_, mu1, env, h1, ⟨hr, rel.er.mono e⟩, (Post.bind p1).mono fun b2 H2 ⟨mu2, d2, h2, e2, hr2, rb2, p2⟩ => p2 _ _ _ (Ext.refl _ _) hr2 ((ra.mono e2).append rb2)⟩
      rcases hh with ⟨z, _⟩ | z
      · exact .inl z
      · exact .inr z⟩
/-- a tuple, a list of written things -/
theorem se_tup {x1} (h : SA X cl W es ms) : SE X cl W (.Tuple es x1 pos) (eOpN vTup ms) :=
  PE.imp (pe_tup h) fun sg H Q ⟨mu, env, h, rel, p⟩ => ⟨mu, env, h, rel, (Post.bind p).mono fun b H1 ⟨mu1, d, h1, e, hr, rb, p1⟩ => by
    have p1 := PostO.of p1
    unfold vTup at p1
    split at p1
    · rename_i hz
      refine ⟨by rw [← rb.length]; exact hz, fun q hq => ?_⟩
      exact p1 _ _ _ (Ext.tupled hq) (hr.tupled hq) (.tup (.inl (.inl upd_same)) (rb.mono (Ext.tupled hq)))
    · exact p1.elim⟩
theorem se_lst (h : SA X cl W es ms) : SE X cl W (.List es pos) (eOpN vLst ms) :=
  PE.imp (pe_lst h) fun sg H Q ⟨mu, env, h, rel, p⟩ => ⟨mu, env, h, rel, (Post.bind p).mono fun b H1 ⟨mu1, d, h1, e, hr, rb, p1⟩ => by
    have p1 := PostO.of p1
    unfold vLst at p1
    split at p1
    · rename_i hz
      refine ⟨by rw [← rb.length]; exact hz, fun q hq => ?_⟩
      refine p1 _ _ _ (Ext.allocd hq) (hr.allocd hq ⟨_, upd_same, rb.mono (Ext.allocd hq)⟩) (.ref ?_)
      rw [← hr.len]; simp
    · exact p1.elim⟩

/-! ### tests -/
theorem st_val (h : SE X cl W e ma) (he : ∀ whole, isTrue e X.env whole = (do let v ← whole; standAt e.pos; holding [v] (truthy v)) := by intro _; rfl) : ST X cl W e (tsB ma) :=
  PT.imp (pt_val h he) fun sg H Q ⟨mu, env, h, rel, p⟩ => ⟨mu, env, h, rel, (Post.bind p).mono fun b H1 ⟨mu1, d, h1, e, hr, rb, p1⟩ => by
    cases rb with
    | bl b => exact ⟨b, rfl, p1 _ _ _ (Ext.refl _ _) hr rfl⟩
    | _ => exact p1.elim⟩
theorem stepB {t : TE} (hi : ∀ (sg : Sg) (H : Hp) (Q : VK), tE X.K cl W ma sg H Q → t sg H Q) : ∀ (sg : Sg) (H : Hp) (Q : Bool → Hp → Prop), tT X.K cl W (tsB ma) sg H Q → tTest t sg H Q :=
  fun sg H Q ⟨mu, env, h, rel, p⟩ => hi _ _ _ ⟨mu, env, h, rel, (Post.bind p).mono fun b H1 ⟨mu1, d, h1, e, hr, rb, p1⟩ => by
    cases rb with
    | bl b => exact ⟨b, rfl, p1 _ _ _ (Ext.refl _ _) hr rfl⟩
    | _ => exact p1.elim⟩
theorem st_cmp {op : CmpOp} {g : O2} (ho : OpR X (compareOp op) (r2 X.K cl g)) (ha : SE X cl W a ma) (hb : SE X cl W b mb) (hm : behindInMarks op b = false := by first | exact nomark _ | rfl) : ST X cl W (.Compare a [op] [b] pos) (tsB (eOp2 g ma mb)) :=
  PT.imp (pt_cmpR ho ha hb hm) (stepB step2)
theorem st_not (h : ST X cl W a mt) : ST X cl W (.UnaryOp .Not a pos) (tNotM mt) :=
  PT.imp (pt_not h) fun sg H Q ⟨mu, env, h, rel, p⟩ => ⟨mu, env, h, rel, (Post.bind (rl := rlB) p).mono fun b H1 ⟨mu1, d, h1, e, hr, rb, p1⟩ => by
    cases rb; exact p1 _ _ _ (Ext.refl _ _) hr rfl⟩
theorem sw_and1 (h : ST X cl W a mt) : SW X cl W (.BoolOp .And [a] pos) mt := pw_and1 h
theorem sw_or1 (h : ST X cl W a mt) : SW X cl W (.BoolOp .Or [a] pos) mt := pw_or1 h
theorem sw_and {rest : List Expr} (h : ST X cl W a mt) (h2 : SW X cl W (.BoolOp .And (b :: rest) pos) mu') : SW X cl W (.BoolOp .And (a :: b :: rest) pos) (tAndM mt mu') :=
  PW.imp (pw_and h h2) fun sg H Q ⟨mu, env, h, rel, p⟩ => ⟨mu, env, h, rel, (Post.bind (rl := rlB) p).mono fun b H1 ⟨mu1, d, h1, e, hr, rb, p1⟩ => by
    cases rb
    cases b with
    | true => exact ⟨mu1, env, h1, ⟨hr, rel.er.mono e⟩, p1⟩
    | false => exact p1 _ _ _ (Ext.refl _ _) hr rfl⟩
theorem sw_or {rest : List Expr} (h : ST X cl W a mt) (h2 : SW X cl W (.BoolOp .Or (b :: rest) pos) mu') : SW X cl W (.BoolOp .Or (a :: b :: rest) pos) (tOrM mt mu') :=
  PW.imp (pw_or h h2) fun sg H Q ⟨mu, env, h, rel, p⟩ => ⟨mu, env, h, rel, (Post.bind (rl := rlB) p).mono fun b H1 ⟨mu1, d, h1, e, hr, rb, p1⟩ => by
    cases rb
    cases b with
    | true => exact p1 _ _ _ (Ext.refl _ _) hr rfl
    | false => exact ⟨mu1, env, h1, ⟨hr, rel.er.mono e⟩, p1⟩⟩
theorem st_bool (h : SW X cl W e mt) : ST X cl W e mt := h.pt
/-! .. as values -/
theorem se_one {op} (h : SE X cl W a ma) : SE X cl W (.BoolOp op [a] pos) ma := pe_one h
theorem se_and {rest : List Expr} (ha : SE X cl W a ma) (hb : SE X cl W (.BoolOp .And (b :: rest) pos) mb) : SE X cl W (.BoolOp .And (a :: b :: rest) pos) (eAndM ma mb) :=
  PE.imp (pe_and ha hb) fun sg H Q ⟨mu, env, h, rel, p⟩ => ⟨mu, env, h, rel, (Post.bind p).mono fun b H1 ⟨mu1, d, h1, e, hr, rb, p1⟩ => by
    cases rb with
    | bl b =>
      cases b with
      | true => exact ⟨true, rfl, mu1, env, h1, ⟨hr, rel.er.mono e⟩, p1⟩
      | false => exact ⟨false, rfl, p1 _ _ _ (Ext.refl _ _) hr (.bl false)⟩
    | _ => exact p1.elim⟩
theorem se_or {rest : List Expr} (ha : SE X cl W a ma) (hb : SE X cl W (.BoolOp .Or (b :: rest) pos) mb) : SE X cl W (.BoolOp .Or (a :: b :: rest) pos) (eOrM ma mb) :=
  PE.imp (pe_or ha hb) fun sg H Q ⟨mu, env, h, rel, p⟩ => ⟨mu, env, h, rel, (Post.bind p).mono fun b H1 ⟨mu1, d, h1, e, hr, rb, p1⟩ => by
    cases rb with
    | bl b =>
      cases b with
      | true => exact ⟨true, rfl, p1 _ _ _ (Ext.refl _ _) hr (.bl true)⟩
      | false => exact ⟨false, rfl, mu1, env, h1, ⟨hr, rel.er.mono e⟩, p1⟩
    | _ => exact p1.elim⟩
theorem se_not (ha : SE X cl W a ma) : SE X cl W (.UnaryOp .Not a pos) (eNotM ma) :=
  PE.imp (pe_not ha) fun sg H Q ⟨mu, env, h, rel, p⟩ => ⟨mu, env, h, rel, (Post.bind p).mono fun b H1 ⟨mu1, d, h1, e, hr, rb, p1⟩ => by
    cases rb with
    | bl b => exact ⟨b, rfl, p1 _ _ _ (Ext.refl _ _) hr (.bl _)⟩
    | _ => exact p1.elim⟩
theorem se_ifExp (hc : ST X cl W c mt) (ha : SE X cl W a ma) (hb : SE X cl W b mb) : SE X cl W (.IfExp c a b pos) (eIfM mt ma mb) :=
  PE.imp (pe_ifExp hc ha hb) fun sg H Q ⟨mu, env, h, rel, p⟩ => ⟨mu, env, h, rel, (Post.bind (rl := rlB) p).mono fun b H1 ⟨mu1, d, h1, e, hr, rb, p1⟩ => by
    cases rb
    cases b with
    | true => exact ⟨mu1, env, h1, ⟨hr, rel.er.mono e⟩, p1⟩
    | false => exact ⟨mu1, env, h1, ⟨hr, rel.er.mono e⟩, p1⟩⟩
end
end DS

set_option Elab.async false
set_option linter.all false
set_option maxRecDepth 100000
set_option maxHeartbeats 4000000
/-! DSC: operations by values. -/
namespace DS
open PySem PySem.Spec PyProof.Rows L2

/-! ### data -/
mutual
def eqD : D → D → Bool
  | .non, .non => true
  | .bl a, .bl b => a == b
  | .bl a, .int j => (if a then 1 else 0) == j
  | .int i, .bl b => i == (if b then 1 else 0)
  | .int i, .int j => i == j
  | .str x, .str y => x == y
  | .tup xs, .tup ys => eqA xs ys
  | _, _ => false
def eqA : List D → List D → Bool
  | [], [] => true
  | x :: xs, y :: ys => eqD x y && eqA xs ys
  | _, _ => false
end
def flatD : D → Bool
  | .non => true
  | .bl _ => true
  | .int _ => true
  | .str _ => true
  | _ => false
/-- pure data, its depth at most n -/
def okN : Nat → D → Bool
  | _, .non => true
  | _, .bl _ => true
  | _, .int _ => true
  | _, .str x => PyData.strOk x
  | n + 1, .tup xs => xs.all (okN n)
  | _, _ => false
mutual
def pd : D → PyData
  | .non => .none
  | .bl b => .bool b
  | .int i => .int i
  | .str x => .str x
  | .tup xs => .tuple (pds xs)
  | .ref _ => .none
  | .sl _ => .none
def pds : List D → List PyData
  | [] => []
  | x :: xs => pd x :: pds xs
end
def scalS : D → D → Bool
  | .non, .non => true | .non, .int _ => true | .int _, .non => true | .non, .bl _ => true | .bl _, .non => true | .non, .str _ => true | .str _, .non => true
  | .int _, .int _ => true | .bl _, .bl _ => true | .str _, .str _ => true
  | .int _, .str _ => true | .str _, .int _ => true | .bl _, .str _ => true | .str _, .bl _ => true
  | _, _ => false
def lsO : O → Option (List D)
  | .lst xs => some xs
  | _ => none
def listOf1 (d : D) (h : Hs) : Option (List D) := match d with
  | .ref n => h[n]?.bind lsO
  | .sl xs => some xs
  | _ => none
def eqH (d e : D) (h : Hs) : Option Bool :=
  match listOf1 d h, listOf1 e h with
  | some xs, some ys => if (xs.all (okN 29) && ys.all (okN 29)) = true then some (eqA xs ys) else none
  | _, _ => if scalS d e = true then some (eqD d e) else if (okN 30 d && okN 30 e) = true then some (eqD d e) else none
def vEq : O2 := fun d e h => (eqH d e h).map fun b => (.bl b, h)
def vNe : O2 := fun d e h => (eqH d e h).map fun b => (.bl (!b), h)
def vAdd : O2
  | .int i, .int j, h => some (.int (i + j), h)
  | .str a, .str b, h => if a.length + b.length ≤ sizeLine then some (.str (a ++ b), h) else none
  | .tup xs, .tup ys, h => if xs.length + ys.length ≤ sizeLine then some (.tup (xs ++ ys), h) else none
  | .ref m, .ref n, h => match h[m]?, h[n]? with
    | some (.lst xs), some (.lst ys) => if xs.length + ys.length ≤ sizeLine then some (.ref h.length, h ++ [.lst (xs ++ ys)]) else none
    | _, _ => none
  | _, _, _ => none
def vSub : O2
  | .int i, .int j, h => some (.int (i - j), h)
  | _, _, _ => none
def mulOk (i j : Int) : Bool := Nat.ble i.natAbs 18446744073709551615 || Nat.ble j.natAbs 18446744073709551615
def vMul : O2
  | .int i, .int j, h => if mulOk i j = true then some (.int (i * j), h) else none
  | .ref m, .int k, h => match h[m]? with
    | some (.lst xs) => if -(2 ^ 63) ≤ k ∧ k < 2 ^ 63 ∧ xs.length * k.toNat ≤ sizeLine then some (.ref h.length, h ++ [.lst (List.replicate k.toNat xs).flatten]) else none
    | _ => none
  | .tup xs, .int k, h => if xs ≠ [] ∧ 2 ≤ k ∧ k ≤ 1000 ∧ xs.length ≤ 1000 then some (.tup (List.replicate k.toNat xs).flatten, h) else none
  | _, _, _ => none
def vMod : O2
  | .int i, .int j, h => if 0 < j then some (.int (i % j), h) else none
  | _, _, _ => none
def vFdiv : O2
  | .int i, .int j, h => if (decide (0 < j) && Nat.ble j.natAbs 1073741823) = true then some (.int (i / j), h) else none
  | _, _, _ => none
def vPow : O2
  | .int i, .int j, h => if 0 ≤ j ∧ j ≤ 1000000 ∧ i.natAbs < 2 ^ 64 then some (.int (i ^ j.toNat), h) else none
  | _, _, _ => none
def vNeg : O1
  | .int i, h => some (.int (-i), h)
  | _, _ => none
def vLt : O2
  | .int i, .int j, h => some (.bl (decide (i < j)), h)
  | _, _, _ => none
def vLe : O2
  | .int i, .int j, h => some (.bl (decide (i ≤ j)), h)
  | _, _, _ => none
def vGt : O2
  | .int i, .int j, h => some (.bl (decide (j < i)), h)
  | _, _, _ => none
def vGe : O2
  | .int i, .int j, h => some (.bl (decide (j ≤ i)), h)
  | _, _, _ => none
def isNon : D → Bool
  | .non => true
  | _ => false
def vIsN : O2
  | d, .non, h => some (.bl (isNon d), h)
  | .bl a, .bl b, h => some (.bl (a == b), h)
  | _, _, _ => none
def vNotN : O2
  | d, .non, h => some (.bl (!isNon d), h)
  | .bl a, .bl b, h => some (.bl (!(a == b)), h)
  | _, _, _ => none
def inD (d : D) (xs : List D) : Bool := xs.any fun y => eqD y d
def inH (d e : D) (h : Hs) : Option Bool :=
  match seqOf e h with
  | some xs => if (flatD d && xs.all flatD) = true then some (inD d xs) else none
  | none => none
def vIn : O2 := fun d e h => (inH d e h).map fun b => (.bl b, h)
def vNotIn : O2 := fun d e h => (inH d e h).map fun b => (.bl (!b), h)
/-- s[i]: a tuple, a list -/
def vIx : O2 := fun d e h => match seqOf d h, e with
  | some xs, .int i => (atI xs i).map fun x => (x, h)
  | _, _ => none

/-! ### equality of data -/
mutual
theorem eqv_pd : ∀ (d e : D) (n m : Nat), okN n d = true → okN m e = true → PyData.eqv (pd d) (pd e) = eqD d e
  | .non, e, n, m, hd, he => by
    cases e with
    | ref k => cases m <;> cases he
    | sl k => cases m <;> cases he
    | _ => simp [pd, PyData.eqv, eqD]
  | .bl b, e, n, m, hd, he => by
    cases e with
    | ref k => cases m <;> cases he
    | sl k => cases m <;> cases he
    | _ => simp [pd, PyData.eqv, eqD]
  | .int b, e, n, m, hd, he => by
    cases e with
    | ref k => cases m <;> cases he
    | sl k => cases m <;> cases he
    | _ => simp [pd, PyData.eqv, eqD]
  | .str b, e, n, m, hd, he => by
    cases e with
    | ref k => cases m <;> cases he
    | sl k => cases m <;> cases he
    | _ => simp [pd, PyData.eqv, eqD]
  | .ref k, e, n, m, hd, he => by cases n <;> cases hd
  | .sl k, e, n, m, hd, he => by cases n <;> cases hd
  | .tup xs, e, n, m, hd, he => by
    cases n with
    | zero => cases hd
    | succ n =>
      cases e with
      | ref k => cases m <;> cases he
      | sl k => cases m <;> cases he
      | tup ys =>
        cases m with
        | zero => cases he
        | succ m => simp only [pd, PyData.eqv, eqD]; exact eqv_pds xs ys n m hd he
      | _ => simp [pd, PyData.eqv, eqD]
theorem eqv_pds : ∀ (xs ys : List D) (n m : Nat), xs.all (okN n) = true → ys.all (okN m) = true → PyData.eqvAll (pds xs) (pds ys) = eqA xs ys
  | [], ys, n, m, hd, he => by cases ys <;> simp [pds, PyData.eqvAll, eqA]
  | x :: xs, [], n, m, hd, he => by simp [pds, PyData.eqvAll, eqA]
  | x :: xs, y :: ys, n, m, hd, he => by
    rw [List.all_cons, Bool.and_eq_true] at hd he
    simp only [pds, PyData.eqvAll, eqA]
    rw [eqv_pd x y n m hd.1 he.1, eqv_pds xs ys n m hd.2 he.2]
end
mutual
theorem shape_pd : ∀ (d : D) (n : Nat), okN n d = true → (pd d).canLay0 = true ∧ (pd d).depth ≤ n + 1
  | .non, n, h => ⟨by simp [pd, PyData.canLay0], by simp [pd, PyData.depth]⟩
  | .bl b, n, h => ⟨by simp [pd, PyData.canLay0], by simp [pd, PyData.depth]⟩
  | .int b, n, h => ⟨by simp [pd, PyData.canLay0], by simp [pd, PyData.depth]⟩
  | .str b, n, h => ⟨by simp only [pd, PyData.canLay0]; cases n <;> exact h, by simp [pd, PyData.depth]⟩
  | .ref k, n, h => by cases n <;> cases h
  | .sl k, n, h => by cases n <;> cases h
  | .tup xs, n, h => by
    cases n with
    | zero => cases h
    | succ n =>
      obtain ⟨h1, h2⟩ := shape_pds xs n h
      refine ⟨by simp only [pd, PyData.canLay0]; exact h1, ?_⟩
      simp only [pd, PyData.depth]
      omega
theorem shape_pds : ∀ (xs : List D) (n : Nat), xs.all (okN n) = true → PyData.canLayAll0 (pds xs) = true ∧ PyData.depthAll (pds xs) ≤ n + 1
  | [], n, h => ⟨by simp [pds, PyData.canLayAll0], by simp [pds, PyData.depthAll]⟩
  | x :: xs, n, h => by
    rw [List.all_cons, Bool.and_eq_true] at h
    obtain ⟨a1, a2⟩ := shape_pd x n h.1
    obtain ⟨b1, b2⟩ := shape_pds xs n h.2
    refine ⟨by simp only [pds, PyData.canLayAll0]; rw [a1, b1]; rfl, ?_⟩
    simp only [pds, PyData.depthAll]
    omega
end
mutual
theorem Rp.dp {K : PySem.W.Frag} {H : Hp} {mu : List Addr} : ∀ (d : D) (v : V) (n : Nat), Rp K H mu d v → okN n d = true → Dp K H v (pd d)
  | .non, _, _, .non, _ => .non
  | .bl _, _, _, .bl b, _ => .bl b
  | .int _, _, _, .int b, _ => .int b
  | .str _, _, _, .str b, _ => .str b
  | .ref _, _, n, _, h => by cases n <;> cases h
  | .sl _, _, n, _, h => by cases n <;> cases h
  | .tup xs, _, n, .tup s r, h => by
    cases n with
    | zero => cases h
    | succ n => simp only [pd]; exact .tup s (RpA.dp xs _ n r h)
theorem RpA.dp {K : PySem.W.Frag} {H : Hp} {mu : List Addr} : ∀ (ds : List D) (vs : List V) (n : Nat), RpA K H mu ds vs → ds.all (okN n) = true → DpAll K H vs (pds ds)
  | [], _, _, .nil, _ => by simp only [pds]; exact .nil
  | d :: ds, _, n, .cons a b, h => by
    rw [List.all_cons, Bool.and_eq_true] at h
    simp only [pds]
    exact .cons (Rp.dp d _ n a h.1) (RpA.dp ds _ n b h.2)
end
theorem eqD_eqV {K : PySem.W.Frag} {H : Hp} {mu : List Addr} {d e : D} {x y : V} (rx : Rp K H mu d x) (ry : Rp K H mu e y) (fd : flatD d = true) (fe : flatD e = true) : eqV x y = eqD d e := by
  cases rx <;> cases ry <;> first | (simp [flatD] at fd; done) | (simp [flatD] at fe; done) | (simp [eqV, eqD]; done)
theorem flat_of {K : PySem.W.Frag} {H : Hp} {mu : List Addr} {d : D} {x : V} (rx : Rp K H mu d x) (fd : flatD d = true) : flatV x = true := by
  cases rx <;> first | (simp [flatD] at fd; done) | rfl
theorem flats_of {K : PySem.W.Frag} {H : Hp} {mu : List Addr} : ∀ {ds : List D} {xs : List V}, RpA K H mu ds xs → ds.all flatD = true → xs.all flatV = true
  | _, _, .nil, _ => rfl
  | _, _, .cons a b, h => by
    rw [List.all_cons, Bool.and_eq_true] at h ⊢
    exact ⟨flat_of a h.1, flats_of b h.2⟩
theorem in_of {K : PySem.W.Frag} {H : Hp} {mu : List Addr} {d : D} {x : V} (rx : Rp K H mu d x) (fd : flatD d = true) : ∀ {ds : List D} {xs : List V}, RpA K H mu ds xs → ds.all flatD = true → inV x xs = inD d ds
  | _, _, .nil, _ => rfl
  | _, _, .cons a b, h => by
    rw [List.all_cons, Bool.and_eq_true] at h
    unfold inV inD
    rw [List.any_cons, List.any_cons, eqD_eqV a rx h.1 fd]
    exact congrArg _ (in_of rx fd b h.2)
theorem scal_of {K : PySem.W.Frag} {H : Hp} {mu : List Addr} {d e : D} {x y : V} (rx : Rp K H mu d x) (ry : Rp K H mu e y) (s : scalS d e = true) : scal x y = true ∧ decide (x = y) = eqD d e := by
  cases rx <;> cases ry <;> first | (simp [scalS] at s; done) | (refine ⟨rfl, ?_⟩; simp [eqD]; done) | (refine ⟨rfl, ?_⟩; rw [dec_int]; simp [eqD]; done) | (refine ⟨rfl, ?_⟩; rw [dec_bl]; simp [eqD]; done) | (refine ⟨rfl, ?_⟩; rw [dec_str]; simp [eqD]; done)

section
variable {X : Cx} {cl : Nat → Addr}
/-! ### the rules -/
theorem lsO_ok {K : PySem.W.Frag} {H : Hp} {mu : List Addr} {h : Hs} {n : Nat} {a : Addr} {xs : List D} (hr : HR K H mu cl h) (hn : mu[n]? = some a) (e : h[n]?.bind lsO = some xs) : ∃ ys, H a = some (.lst ys) ∧ RpA K H mu xs ys := by
  cases q : h[n]? with
  | none => rw [q] at e; cases e
  | some o =>
    rw [q] at e
    obtain ⟨a', ha', ro⟩ := hr.at q
    rw [hn] at ha'; cases ha'
    cases o with
    | lst ys => cases e; obtain ⟨zs, h1, h2⟩ := ro; exact ⟨zs, h1, h2⟩
    | _ => cases e
theorem listOf1_ok {K : PySem.W.Frag} {H : Hp} {mu : List Addr} {h : Hs} {d : D} {v : V} {xs : List D} (hr : HR K H mu cl h) (r : Rp K H mu d v) (e : listOf1 d h = some xs) : ∃ a ys, v = .ref a ∧ SqL K H a ys ∧ RpA K H mu xs ys := by
  cases r with
  | @ref n a hn => obtain ⟨ys, h1, h2⟩ := lsO_ok hr hn e; exact ⟨a, ys, rfl, .inl (.inl h1), h2⟩
  | sl s ra => cases e; exact ⟨_, _, rfl, s.sql, ra⟩
  | _ => cases e
/-- how == is decided, by one of two rules -/
theorem eqH_ok {K : PySem.W.Frag} {H : Hp} {mu : List Addr} {h : Hs} {d e : D} {x y : V} {b : Bool} (hr : HR K H mu cl h) (rx : Rp K H mu d x) (ry : Rp K H mu e y) (q : eqH d e h = some b) :
    (scal x y = true ∧ decide (x = y) = b) ∨ ∃ p r, Dp K H x p ∧ Dp K H y r ∧ SeqAt.shaped p = true ∧ SeqAt.shaped r = true ∧ PyData.eqv p r = b := by
  have gen : (if scalS d e = true then some (eqD d e) else if (okN 30 d && okN 30 e) = true then some (eqD d e) else none) = some b →
      (scal x y = true ∧ decide (x = y) = b) ∨ ∃ p r, Dp K H x p ∧ Dp K H y r ∧ SeqAt.shaped p = true ∧ SeqAt.shaped r = true ∧ PyData.eqv p r = b := fun q => by
    split at q
    · rename_i hs
      cases q
      exact .inl (scal_of rx ry hs)
    · split at q
      · rename_i hs
        rw [Bool.and_eq_true] at hs
        cases q
        obtain ⟨a1, a2⟩ := shape_pd d 30 hs.1
        obtain ⟨b1, b2⟩ := shape_pd e 30 hs.2
        refine .inr ⟨pd d, pd e, Rp.dp d x 30 rx hs.1, Rp.dp e y 30 ry hs.2, ?_, ?_, eqv_pd d e 30 30 hs.1 hs.2⟩
        · unfold SeqAt.shaped; rw [a1, decide_eq_true (by omega)]; rfl
        · unfold SeqAt.shaped; rw [b1, decide_eq_true (by omega)]; rfl
      · cases q
  unfold eqH at q
  cases q1 : listOf1 d h with
  | none => rw [q1] at q; exact gen q
  | some xs =>
    cases q2 : listOf1 e h with
    | none => rw [q1, q2] at q; exact gen q
    | some ys =>
      rw [q1, q2] at q
      simp only at q
      split at q
      · rename_i hs
        rw [Bool.and_eq_true] at hs
        cases q
        obtain ⟨_, us, rfl, h1, r1⟩ := listOf1_ok hr rx q1
        obtain ⟨_, ws, rfl, h2, r2⟩ := listOf1_ok hr ry q2
        obtain ⟨a1, a2⟩ := shape_pds xs 29 hs.1
        obtain ⟨b1, b2⟩ := shape_pds ys 29 hs.2
        refine .inr ⟨.list (pds xs), .list (pds ys), .lst h1 (RpA.dp xs us 29 r1 hs.1), .lst h2 (RpA.dp ys ws 29 r2 hs.2), ?_, ?_, ?_⟩
        · unfold SeqAt.shaped; rw [show (PyData.list (pds xs)).canLay0 = true by simp only [PyData.canLay0]; exact a1, decide_eq_true (show (PyData.list (pds xs)).depth ≤ 64 by show PyData.depthAll (pds xs) + 1 ≤ 64; omega)]; rfl
        · unfold SeqAt.shaped; rw [show (PyData.list (pds ys)).canLay0 = true by simp only [PyData.canLay0]; exact b1, decide_eq_true (show (PyData.list (pds ys)).depth ≤ 64 by show PyData.depthAll (pds ys) + 1 ≤ 64; omega)]; rfl
        · simp only [PyData.eqv]; exact eqv_pds xs ys 29 29 hs.1 hs.2
      · cases q
theorem o_eq (hu : X.A.units + 64 < cLine) : OpR X (compareOp .Eq) (r2 X.K cl vEq) := by
  intro pins s σ H x y v u Q I rx ry ⟨mu, h, d, e, hr, rd, re, p⟩
  unfold vEq at p
  cases q : eqH d e h with
  | none => rw [q] at p; exact p.elim
  | some b =>
    rw [q] at p
    have hq : Q (.bl b) H := p _ _ _ (Ext.refl _ _) hr (.bl b)
    rcases eqH_ok hr rd re q with ⟨h1, h2⟩ | ⟨p1, p2, h1, h2, h3, h4, h5⟩
    · exact op_eq pins s σ H x y v u Q I rx ry ⟨h1, by rw [h2]; exact hq⟩
    · exact op_eqD hu pins s σ H x y v u Q I rx ry ⟨p1, p2, h1, h2, h3, h4, by rw [h5]; exact hq⟩
theorem o_ne (hu : X.A.units + 64 < cLine) : OpR X (compareOp .NotEq) (r2 X.K cl vNe) := by
  intro pins s σ H x y v u Q I rx ry ⟨mu, h, d, e, hr, rd, re, p⟩
  unfold vNe at p
  cases q : eqH d e h with
  | none => rw [q] at p; exact p.elim
  | some b =>
    rw [q] at p
    have hq : Q (.bl (!b)) H := p _ _ _ (Ext.refl _ _) hr (.bl _)
    rcases eqH_ok hr rd re q with ⟨h1, h2⟩ | ⟨p1, p2, h1, h2, h3, h4, h5⟩
    · exact op_ne pins s σ H x y v u Q I rx ry ⟨h1, by rw [h2]; exact hq⟩
    · exact op_neD hu pins s σ H x y v u Q I rx ry ⟨p1, p2, h1, h2, h3, h4, by rw [h5]; exact hq⟩
theorem o_in : OpR X (compareOp .In) (r2 X.K cl vIn) := by
  intro pins s σ H x y v u Q I rx ry ⟨mu, h, d, e, hr, rd, re, p⟩
  unfold vIn inH at p
  cases q : seqOf e h with
  | none => rw [q] at p; exact p.elim
  | some xs =>
    rw [q] at p
    simp only at p
    split at p
    · rename_i hs
      rw [Bool.and_eq_true] at hs
      obtain ⟨a, ys, rfl, ra, hh⟩ := seqOf_ok hr re q
      refine op_in_seq pins s σ H x _ v u Q I rx ry ⟨a, ys, rfl, ?_, flat_of rd hs.1, flats_of ra hs.2, ?_⟩
      · rcases hh with ⟨z, _⟩ | z
        · exact .inr z
        · exact .inl z
      · have e2 := in_of rd hs.1 ra hs.2
        show Q (.bl (inV x ys)) H
        rw [e2]
        exact p _ _ _ (Ext.refl _ _) hr (.bl _)
    · exact p.elim
theorem o_notIn : OpR X (compareOp .NotIn) (r2 X.K cl vNotIn) := by
  intro pins s σ H x y v u Q I rx ry ⟨mu, h, d, e, hr, rd, re, p⟩
  unfold vNotIn inH at p
  cases q : seqOf e h with
  | none => rw [q] at p; exact p.elim
  | some xs =>
    rw [q] at p
    simp only at p
    split at p
    · rename_i hs
      rw [Bool.and_eq_true] at hs
      obtain ⟨a, ys, rfl, ra, hh⟩ := seqOf_ok hr re q
      refine op_notIn_seq pins s σ H x _ v u Q I rx ry ⟨a, ys, rfl, ?_, flat_of rd hs.1, flats_of ra hs.2, ?_⟩
      · rcases hh with ⟨z, _⟩ | z
        · exact .inr z
        · exact .inl z
      · have e2 := in_of rd hs.1 ra hs.2
        show Q (.bl (!inV x ys)) H
        rw [e2]
        exact p _ _ _ (Ext.refl _ _) hr (.bl _)
    · exact p.elim
theorem o_add : OpR X (binaryOp .Add) (r2 X.K cl vAdd) := by
  intro pins s σ H x y v u Q I rx ry ⟨mu, h, d, e, hr, rd, re, p⟩
  cases rd with
  | int i =>
    cases re with
    | int j => exact op_add pins s σ H _ _ v u Q I rx ry ⟨i, j, rfl, rfl, p _ _ _ (Ext.refl _ _) hr (.int _)⟩
    | _ => exact p.elim
  | str i =>
    cases re with
    | str j =>
      unfold vAdd at p
      simp only at p
      split at p
      · rename_i hz
        exact op_add_str pins s σ H _ _ v u Q I rx ry ⟨i, j, rfl, rfl, hz, p _ _ _ (Ext.refl _ _) hr (.str _)⟩
      · exact p.elim
    | _ => exact p.elim
  | @tup a xs ds sa ra =>
    cases re with
    | @tup b ys es sb rb =>
      unfold vAdd at p
      simp only at p
      split at p
      · rename_i hz
        refine op_catA pins s σ H _ _ v u Q I rx ry ⟨a, b, xs, ys, rfl, rfl, sa, sb, by rw [← ra.length, ← rb.length]; exact hz, fun h0 => ?_, fun h0 h1 => ?_, fun h0 h1 q hq => ?_⟩
        · have : ds = [] := ra.nil_iff.mpr h0
          subst this
          exact p _ _ _ (Ext.refl _ _) hr (.tup sb rb)
        · have : es = [] := rb.nil_iff.mpr h1
          subst this
          exact p _ _ _ (Ext.refl _ _) hr (.tup sa (by simpa using ra))
        · exact p _ _ _ (Ext.tupled hq) (hr.tupled hq) (.tup (.inl (.inl upd_same)) ((ra.append rb).mono (Ext.tupled hq)))
      · exact p.elim
    | _ => exact p.elim
  | @ref m a hm =>
    cases re with
    | @ref n b hn =>
      unfold vAdd at p
      simp only at p
      split at p
      · rename_i xs ys e1 e2
        split at p
        · rename_i hz
          obtain ⟨a', ha', us, g1, k1⟩ := hr.at e1
          rw [hm] at ha'; cases ha'
          obtain ⟨b', hb', ws, g2, k2⟩ := hr.at e2
          rw [hn] at hb'; cases hb'
          refine op_cat pins s σ H _ _ v u Q I rx ry ⟨a, b, us, ws, rfl, rfl, g1, g2, by rw [← k1.length, ← k2.length]; exact hz, fun q hq => ?_⟩
          refine p _ _ _ (Ext.allocd hq) (hr.allocd hq ⟨_, upd_same, (k1.append k2).mono (Ext.allocd hq)⟩) (.ref ?_)
          rw [← hr.len]; simp
        · exact p.elim
      · exact p.elim
    | _ => exact p.elim
  | _ => exact p.elim
theorem o_sub : OpR X (binaryOp .Sub) (r2 X.K cl vSub) := by
  intro pins s σ H x y v u Q I rx ry ⟨mu, h, d, e, hr, rd, re, p⟩
  cases rd with
  | int i =>
    cases re with
    | int j => exact op_sub pins s σ H _ _ v u Q I rx ry ⟨i, j, rfl, rfl, p _ _ _ (Ext.refl _ _) hr (.int _)⟩
    | _ => exact p.elim
  | _ => exact p.elim
theorem o_mul : OpR X (binaryOp .Mult) (r2 X.K cl vMul) := by
  intro pins s σ H x y v u Q I rx ry ⟨mu, h, d, e, hr, rd, re, p⟩
  cases rd with
  | int i =>
    cases re with
    | int j =>
      unfold vMul at p
      simp only at p
      split at p
      · rename_i hz
        refine op_mul pins s σ H _ _ v u Q I rx ry ⟨i, j, rfl, rfl, ?_, p _ _ _ (Ext.refl _ _) hr (.int _)⟩
        unfold mulOk at hz
        rw [Bool.or_eq_true] at hz
        rcases hz with hz | hz
        · have := Nat.le_of_ble_eq_true hz
          exact .inl (by omega)
        · have := Nat.le_of_ble_eq_true hz
          exact .inr (by omega)
      · exact p.elim
    | _ => exact p.elim
  | @ref m a hm =>
    cases re with
    | int k =>
      unfold vMul at p
      simp only at p
      split at p
      · rename_i xs e1
        split at p
        · rename_i hz
          obtain ⟨z1, z2, z3⟩ := hz
          obtain ⟨a', ha', us, g1, k1⟩ := hr.at e1
          rw [hm] at ha'; cases ha'
          refine op_rep pins s σ H _ _ v u Q I rx ry ⟨a, k, us, rfl, rfl, g1, z1, z2, by rw [← k1.length]; exact z3, fun q hq => ?_⟩
          refine p _ _ _ (Ext.allocd hq) (hr.allocd hq ⟨_, upd_same, (k1.flat _).mono (Ext.allocd hq)⟩) (.ref ?_)
          rw [← hr.len]; simp
        · exact p.elim
      · exact p.elim
    | _ => exact p.elim
  | @tup a xs ds sa ra =>
    cases re with
    | int k =>
      unfold vMul at p
      simp only at p
      split at p
      · rename_i hz
        obtain ⟨z1, z2, z3, z4⟩ := hz
        refine op_repT pins s σ H _ _ v u Q I rx ry ⟨a, k, xs, rfl, rfl, sa, fun h0 => z1 (ra.nil_iff.mpr h0), z2, z3, by rw [← ra.length]; exact z4, fun q hq => ?_⟩
        exact p _ _ _ (Ext.tupled hq) (hr.tupled hq) (.tup (.inl (.inl upd_same)) ((ra.flat _).mono (Ext.tupled hq)))
      · exact p.elim
    | _ => exact p.elim
  | _ => exact p.elim
theorem o_mod : OpR X (binaryOp .Mod) (r2 X.K cl vMod) := by
  intro pins s σ H x y v u Q I rx ry ⟨mu, h, d, e, hr, rd, re, p⟩
  cases rd with
  | int i =>
    cases re with
    | int j =>
      unfold vMod at p
      simp only at p
      split at p
      · rename_i hz
        exact op_mod pins s σ H _ _ v u Q I rx ry ⟨i, j, rfl, rfl, hz, p _ _ _ (Ext.refl _ _) hr (.int _)⟩
      · exact p.elim
    | _ => exact p.elim
  | _ => exact p.elim
theorem o_fdiv : OpR X (binaryOp .FloorDiv) (r2 X.K cl vFdiv) := by
  intro pins s σ H x y v u Q I rx ry ⟨mu, h, d, e, hr, rd, re, p⟩
  cases rd with
  | int i =>
    cases re with
    | int j =>
      unfold vFdiv at p
      simp only at p
      split at p
      · rename_i hz
        exact op_fdiv pins s σ H _ _ v u Q I rx ry ⟨i, j, rfl, rfl, (by
          rw [Bool.and_eq_true, decide_eq_true_eq] at hz
          have := Nat.le_of_ble_eq_true hz.2
          exact ⟨hz.1, by omega⟩), p _ _ _ (Ext.refl _ _) hr (.int _)⟩
      · exact p.elim
    | _ => exact p.elim
  | _ => exact p.elim
theorem o_pow : OpR X (binaryOp .Pow) (r2 X.K cl vPow) := by
  intro pins s σ H x y v u Q I rx ry ⟨mu, h, d, e, hr, rd, re, p⟩
  cases rd with
  | int i =>
    cases re with
    | int j =>
      unfold vPow at p
      simp only at p
      split at p
      · rename_i hz
        exact op_pow pins s σ H _ _ v u Q I rx ry ⟨i, j, rfl, rfl, hz, p _ _ _ (Ext.refl _ _) hr (.int _)⟩
      · exact p.elim
    | _ => exact p.elim
  | _ => exact p.elim
theorem o_neg : UnR X (unaryOp .USub) (r1 X.K cl vNeg) := by
  intro pins s σ H x v Q I rx ⟨mu, h, d, hr, rd, p⟩
  cases rd with
  | int i => exact un_neg pins s σ H _ v Q I rx ⟨i, rfl, p _ _ _ (Ext.refl _ _) hr (.int _)⟩
  | _ => exact p.elim
theorem o_lt : OpR X (compareOp .Lt) (r2 X.K cl vLt) := by
  intro pins s σ H x y v u Q I rx ry ⟨mu, h, d, e, hr, rd, re, p⟩
  cases rd with
  | int i =>
    cases re with
    | int j => exact op_lt pins s σ H _ _ v u Q I rx ry ⟨i, j, rfl, rfl, p _ _ _ (Ext.refl _ _) hr (.bl _)⟩
    | _ => exact p.elim
  | _ => exact p.elim
theorem o_le : OpR X (compareOp .LtE) (r2 X.K cl vLe) := by
  intro pins s σ H x y v u Q I rx ry ⟨mu, h, d, e, hr, rd, re, p⟩
  cases rd with
  | int i =>
    cases re with
    | int j => exact op_le pins s σ H _ _ v u Q I rx ry ⟨i, j, rfl, rfl, p _ _ _ (Ext.refl _ _) hr (.bl _)⟩
    | _ => exact p.elim
  | _ => exact p.elim
theorem o_gt : OpR X (compareOp .Gt) (r2 X.K cl vGt) := by
  intro pins s σ H x y v u Q I rx ry ⟨mu, h, d, e, hr, rd, re, p⟩
  cases rd with
  | int i =>
    cases re with
    | int j => exact op_gt pins s σ H _ _ v u Q I rx ry ⟨i, j, rfl, rfl, p _ _ _ (Ext.refl _ _) hr (.bl _)⟩
    | _ => exact p.elim
  | _ => exact p.elim
theorem o_ge : OpR X (compareOp .GtE) (r2 X.K cl vGe) := by
  intro pins s σ H x y v u Q I rx ry ⟨mu, h, d, e, hr, rd, re, p⟩
  cases rd with
  | int i =>
    cases re with
    | int j => exact op_ge pins s σ H _ _ v u Q I rx ry ⟨i, j, rfl, rfl, p _ _ _ (Ext.refl _ _) hr (.bl _)⟩
    | _ => exact p.elim
  | _ => exact p.elim
theorem isNon_ok {K : PySem.W.Frag} {H : Hp} {mu : List Addr} {d : D} {x : V} (r : Rp K H mu d x) : decide (x = .non) = isNon d := by
  cases r <;> simp [isNon]
theorem o_ix : IxR X (r2 X.K cl vIx) := by
  intro value slice pins s σ H x y v u Q I rx ry ⟨mu, h, d, e, hr, rd, re, p⟩ hs
  unfold vIx at p
  cases q : seqOf d h with
  | none => rw [q] at p; exact p.elim
  | some xs =>
    rw [q] at p
    cases re with
    | int i =>
      simp only at p
      obtain ⟨a, ys, rfl, ra, hh⟩ := seqOf_ok hr rd q
      cases q2 : atI xs i with
      | none => rw [q2] at p; exact p.elim
      | some z =>
        rw [q2] at p
        have : ∃ w, atI ys i = some w ∧ Rp X.K H mu z w := by
          unfold atI at q2 ⊢
          rw [← ra.length]
          cases q3 : ixN xs.length i with
          | none => rw [q3] at q2; cases q2
          | some j => rw [q3] at q2; exact ra.get q2
        obtain ⟨w, hw, rw'⟩ := this
        have hq := p _ _ _ (Ext.refl _ _) hr rw'
        rcases hh with ⟨z, _⟩ | z
        · exact ix_tup value slice pins s σ H _ _ v u Q I rx ry ⟨a, ys, i, w, rfl, rfl, z, hw, hq⟩ hs
        · exact ix_list value slice pins s σ H _ _ v u Q I rx ry ⟨a, ys, i, w, rfl, rfl, z, hw, hq⟩ hs
    | _ => exact p.elim
end
end DS

set_option Elab.async false
set_option linter.all false
set_option maxRecDepth 100000
set_option maxHeartbeats 4000000
/-! DSD: built-ins, methods, slices, dicts. -/
namespace DS
open PySem PySem.Spec PyProof.Rows L2

/-! ### meanings -/
def vLen : ON
  | [.str x], h => if x.length ≤ sizeLine then some (.int x.length, h) else none
  | [d], h => match seqOf d h with
    | some xs => some (.int xs.length, h)
    | none => match d with
      | .ref n => match h[n]? with
        | some (.dct kvs) => some (.int kvs.length, h)
        | _ => none
      | _ => none
  | _, _ => none
def vInt : ON
  | [.int i], h => some (.int i, h)
  | [.bl b], h => some (.int (if b then 1 else 0), h)
  | _, _ => none
def vList : ON
  | [d], h => match seqOf d h with
    | some xs => some (.ref h.length, h ++ [.lst xs])
    | none => none
  | _, _ => none
def vTuple : ON
  | [d], h => match seqOf d h with
    | some xs => some (.tup xs, h)
    | none => none
  | _, _ => none
def intsOf : List D → Option (List Int)
  | [] => some []
  | .int i :: r => (intsOf r).map (i :: ·)
  | _ => none
def blsOf : List D → Option (List Bool)
  | [] => some []
  | .bl i :: r => (blsOf r).map (i :: ·)
  | _ => none
def maxI : List Int → Int
  | [] => 0
  | x :: r => r.foldl max x
def minI : List Int → Int
  | [] => 0
  | x :: r => r.foldl min x
def vMax : ON
  | [.int i, .int j], h => some (.int (if j > i then j else i), h)
  | [d], h => match (listOf1 d h).bind intsOf with
    | some (x :: r) => some (.int (maxI (x :: r)), h)
    | _ => none
  | _, _ => none
def vMin : ON
  | [.int i, .int j], h => some (.int (if j < i then j else i), h)
  | [d], h => match (listOf1 d h).bind intsOf with
    | some (x :: r) => some (.int (minI (x :: r)), h)
    | _ => none
  | _, _ => none
def vAny : ON
  | [d], h => match (listOf1 d h).bind blsOf with
    | some bs => some (.bl (bs.any id), h)
    | none => none
  | _, _ => none
def vAll : ON
  | [d], h => match (listOf1 d h).bind blsOf with
    | some bs => some (.bl (bs.all id), h)
    | none => none
  | _, _ => none
def vSum : ON
  | [d], h => match (listOf1 d h).bind intsOf with
    | some bs => some (.int bs.sum, h)
    | none => none
  | _, _ => none

/-- the types that isinstance is asked of -/
inductive Ty where
  | tup | int | bl | str | lst | dct
  deriving DecidableEq
def Ty.name : Ty → String
  | .tup => "tuple" | .int => "int" | .bl => "bool" | .str => "str" | .lst => "list" | .dct => "dict"
def isiD (T : Ty) (d : D) (h : Hs) : Option Bool :=
  match d with
  | .non => some false
  | .bl _ => some (match T with | .bl => true | .int => true | _ => false)
  | .int _ => some (match T with | .int => true | _ => false)
  | .str _ => some (match T with | .str => true | _ => false)
  | .tup _ => some (match T with | .tup => true | _ => false)
  | .sl _ => none
  | .ref n => match h[n]? with
    | some (.lst _) => some (match T with | .lst => true | _ => false)
    | some (.dct _) => some (match T with | .dct => true | _ => false)
    | some (.dtt _) => some (match T with | .dct => true | _ => false)
    | _ => none
def eIsi (T : Ty) (a : ME) : ME := fun env h => (a env h).bind fun x h1 => lft ((isiD T x h1).map fun b => (.bl b, h1))

/-- methods of lists -/
def isL (d : D) (h : Hs) : Bool := (listOf1 d h).isSome
abbrev OM := D → List D → Hs → Option (D × Hs)
def eMethL (g : OM) (a : ME) (b : MA) : ME := fun env h => (a env h).bind fun x h1 => if isL x h1 = true then (b env h1).bind fun ys h2 => lft (g x ys h2) else .bad
def vAppend : OM
  | .ref n, [y], h => match h[n]? with
    | some (.lst xs) => if xs.length < sizeLine then some (.non, h.set n (.lst (xs ++ [y]))) else none
    | _ => none
  | _, _, _ => none
def vExtend : OM
  | .ref n, [.ref m], h => match h[n]?, h[m]? with
    | some (.lst xs), some (.lst ys) => if xs.length + ys.length ≤ sizeLine then some (.non, h.set n (.lst (xs ++ ys))) else none
    | _, _ => none
  | _, _, _ => none
def vPop : OM
  | .ref n, [], h => match h[n]? with
    | some (.lst xs) => match xs[xs.length - 1]? with
      | some y => some (y, h.set n (.lst xs.dropLast))
      | none => none
    | _ => none
  | _, _, _ => none

/-- slices -/
def cut {α : Type} (xs : List α) (lo hi : Option Int) : List α := (xs.drop (HT.sIx xs.length 0 lo)).take (HT.sIx xs.length xs.length hi - HT.sIx xs.length 0 lo)
abbrev MO := En → Hs → R (Option Int)
def oNone : MO := fun _ h => .ok none h
def oSome (a : ME) : MO := fun env h => (a env h).bind fun x h1 => match x with | .int i => .ok (some i) h1 | _ => .bad
def vSl (d : D) (lo hi : Option Int) (h : Hs) : Option (D × Hs) :=
  match d with
  | .tup xs => some (.tup (cut xs lo hi), h)
  | d => match listOf1 d h with
    | some xs => some (.ref h.length, h ++ [.lst (cut xs lo hi)])
    | none => none
def eSl (a : ME) (lo hi : MO) : ME := fun env h => (a env h).bind fun x h1 => (lo env h1).bind fun l h2 => (hi env h2).bind fun u h3 => lft (vSl x l u h3)

/-- dicts -/
def keyD : D → Option Key
  | .int i => some (.inl i)
  | .str x => some (.inr x)
  | _ => none
def keyT : List D → Option (List Key)
  | [] => some []
  | d :: r => (keyD d).bind fun k => (keyT r).map (k :: ·)
def getK {κ : Type} [DecidableEq κ] (kvs : List (κ × D)) (k : κ) : Option D := (kvs.find? fun kv => decide (kv.1 = k)).map (·.2)
def setK {κ : Type} [DecidableEq κ] (kvs : List (κ × D)) (k : κ) (v : D) : List (κ × D) :=
  if (kvs.any fun kv => decide (kv.1 = k)) = true then kvs.map (fun kv => if kv.1 = k then (kv.1, v) else kv) else kvs ++ [(k, v)]
def vDGet : O2
  | .ref n, e, h => match h[n]? with
    | some (.dct kvs) => ((keyD e).bind (getK kvs)).map fun v => (v, h)
    | _ => none
  | _, _, _ => none
/-- o[i] = v -/
abbrev OS := D → D → D → Hs → Option Hs
def vDPut : OS
  | .ref n, e, v, h => match h[n]?, keyD e with
    | some (.dct kvs), some k => if kvs.length < sizeLine then some (h.set n (.dct (setK kvs k v))) else none
    | _, _ => none
  | _, _, _, _ => none
def vLPut : OS
  | .ref n, .int i, v, h => match h[n]? with
    | some (.lst xs) => (ixN xs.length i).map fun j => h.set n (.lst (xs.set j v))
    | _ => none
  | _, _, _, _ => none
/-- a display -/
def ePairs : List (ME × ME) → En → Hs → R (List (D × D))
  | [], _, h => .ok [] h
  | (a, b) :: r, env, h => (a env h).bind fun x h1 => (b env h1).bind fun y h2 => (ePairs r env h2).bind fun ps h3 => .ok ((x, y) :: ps) h3
def keysOf : List (D × D) → Option (List (Key × D))
  | [] => some []
  | (k, v) :: r => (keyD k).bind fun q => (keysOf r).map ((q, v) :: ·)
def eDict (ps : List (ME × ME)) : ME := fun env h => (ePairs ps env h).bind fun rs h1 => match keysOf rs with
  | some kvs => if kvs.length ≤ 15 then .ok (.ref h1.length) (h1 ++ [.dct (kvs.foldl (fun acc kv => setK acc kv.1 kv.2) [])]) else .bad
  | none => .bad
/-- an item of a written dict -/
def eKGet (tab : List (Str × D)) (a : ME) : ME := fun env h => (a env h).bind fun x h1 => match x with
  | .str z => match tab.lookup z with
    | some d => .ok d h1
    | none => .bad
  | _ => .bad
/-- a op b op' c -/
def eChain (g g' : O2) (a b c : ME) : ME := fun env h => (a env h).bind fun x h1 => (b env h1).bind fun y h2 => (lft (g x y h2)).bind fun z h3 => match z with
  | .bl true => (c env h3).bind fun w h4 => lft (g' y w h4)
  | .bl false => .ok (.bl false) h3
  | _ => .bad

/-! ### the rules -/
section
variable {X : Cx} {cl : Nat → Addr} {W : WX} {a b c e : Expr} {es : List Expr} {ma mb mc : ME} {mt mu' : MT} {ms : MA} {pos p : Pos}
theorem se_callB {id : String} {x : Str} {g : ON} (hc : CallR X (.builtin id) (rN X.K cl g)) (hm : X.mg x = none) (hv : bootBuiltins x = some (.builtin id)) (ha : SA X cl W (e :: es) ms) (hg : Gl X x := by rfl) (hn : x ≠ "__name__" := by decide) (hdb : (x == ("__debug__" : Str)) = false := by decide)
    (he : starEach (e :: es) X.env = (false, eval e X.env) :: starEach es X.env := by rfl) (hpl : (backTo pos (starEach es X.env)).any (·.1) = false := by rfl) : SE X cl W (.Call (.Name x p) (e :: es) [] pos) (eOpN g ms) :=
  PE.imp (pe_callB hc hg hm hv ha hn hdb he hpl) fun sg H Q ⟨mu, env, h, rel, p⟩ => ⟨mu, env, h, rel, (Post.bind p).mono fun b H1 ⟨mu1, d, h1, e, hr, rb, p1⟩ => ⟨mu1, h1, d, hr, rb, .of p1⟩⟩
theorem se_callT {T : String} {x : Str} {g : ON} (hc : CallR X (.type T) (rN X.K cl g)) (hm : X.mg x = none) (hv : bootBuiltins x = some (.type T)) (ha : SA X cl W (e :: es) ms) (hg : Gl X x := by rfl) (hn : x ≠ "__name__" := by decide) (hdb : (x == ("__debug__" : Str)) = false := by decide)
    (he : starEach (e :: es) X.env = (false, eval e X.env) :: starEach es X.env := by rfl) (hpl : (backTo pos (starEach es X.env)).any (·.1) = false := by rfl) : SE X cl W (.Call (.Name x p) (e :: es) [] pos) (eOpN g ms) :=
  PE.imp (pe_callTy hc hg hm hv ha hn hdb he hpl) fun sg H Q ⟨mu, env, h, rel, p⟩ => ⟨mu, env, h, rel, (Post.bind p).mono fun b H1 ⟨mu1, d, h1, e, hr, rb, p1⟩ => ⟨mu1, h1, d, hr, rb, .of p1⟩⟩
theorem rd_sql {K : PySem.W.Frag} {H : Hp} {a : Addr} {ys : List V} (h : Rd H a (.lst ys)) : SqL K H a ys := .inl h
theorem b_len : CallR X (.builtin "len") (rN X.K cl vLen) := by
  intro pins s σ H vs us Q I r ⟨mu, h, ds, hr, rd, p⟩
  cases rd with
  | nil => exact p.elim
  | @cons d v ds' vs' rd rest =>
    cases rest with
    | cons _ _ => cases d <;> exact p.elim
    | nil =>
      cases rd with
      | str x =>
        unfold vLen at p
        simp only at p
        split at p
        · rename_i hz
          exact call_len_str pins s σ H _ us Q I r ⟨x, rfl, hz, p _ _ _ (Ext.refl _ _) hr (.int _)⟩
        · exact p.elim
      | @sl a xs ds sa ra =>
        refine call_len_seq pins s σ H _ us Q I r ⟨a, xs, rfl, .inl sa.sql, ?_⟩
        rw [← ra.length]
        exact p _ _ _ (Ext.refl _ _) hr (.int _)
      | @tup a xs ds sa ra =>
        refine call_len_seq pins s σ H _ us Q I r ⟨a, xs, rfl, .inr sa, ?_⟩
        rw [← ra.length]
        exact p _ _ _ (Ext.refl _ _) hr (.int _)
      | @ref n a hn =>
        unfold vLen at p
        simp only at p
        cases q : seqOf (.ref n) h with
        | some xs =>
          rw [q] at p
          obtain ⟨a', ys, e1, ra, hh⟩ := seqOf_ok hr (.ref hn) q
          cases e1
          rcases hh with ⟨_, z⟩ | z
          · cases z
          · refine call_len_seq pins s σ H _ us Q I r ⟨a, ys, rfl, .inl z, ?_⟩
            rw [← ra.length]
            exact p _ _ _ (Ext.refl _ _) hr (.int _)
        | none =>
          rw [q] at p
          simp only at p
          split at p
          · rename_i kvs e1
            obtain ⟨a', ha', ks, g1, k1⟩ := hr.at e1
            rw [hn] at ha'; cases ha'
            refine call_lenD pins s σ H _ us Q I r ⟨a, ks, rfl, g1, ?_⟩
            have : ks.length = kvs.length := (Paired.length k1).symm
            rw [this]
            exact p _ _ _ (Ext.refl _ _) hr (.int _)
          · exact p.elim
      | _ => exact p.elim
theorem b_int : CallR X (.type "int") (rN X.K cl vInt) := by
  intro pins s σ H vs us Q I r ⟨mu, h, ds, hr, rd, p⟩
  cases rd with
  | nil => exact p.elim
  | @cons d v ds' vs' rd rest =>
    cases rest with
    | cons _ _ => cases d <;> exact p.elim
    | nil =>
      cases rd with
      | int i => exact call_int1 pins s σ H _ us Q I r (.inl ⟨i, rfl, p _ _ _ (Ext.refl _ _) hr (.int _)⟩)
      | bl b => exact call_int1 pins s σ H _ us Q I r (.inr ⟨b, rfl, p _ _ _ (Ext.refl _ _) hr (.int _)⟩)
      | _ => exact p.elim
theorem b_list : CallR X (.type "list") (rN X.K cl vList) := by
  intro pins s σ H vs us Q I r ⟨mu, h, ds, hr, rd, p⟩
  cases rd with
  | nil => exact p.elim
  | @cons d v ds' vs' rd rest =>
    cases rest with
    | cons _ _ => exact p.elim
    | nil =>
      unfold vList at p
      simp only at p
      cases q : seqOf d h with
      | none => rw [q] at p; exact p.elim
      | some xs =>
        rw [q] at p
        obtain ⟨a, ys, rfl, ra, hh⟩ := seqOf_ok hr rd q
        refine call_list_of pins s σ H _ us Q I r ⟨a, ys, rfl, ?_, fun l hl => ?_⟩
        · rcases hh with ⟨z, _⟩ | z
          · exact .inr z
          · exact .inl z
        · refine p _ _ _ (Ext.allocd hl) (hr.allocd hl ⟨_, upd_same, ra.mono (Ext.allocd hl)⟩) (.ref ?_)
          rw [← hr.len]; simp
theorem b_tuple : CallR X (.type "tuple") (rN X.K cl vTuple) := by
  intro pins s σ H vs us Q I r ⟨mu, h, ds, hr, rd, p⟩
  cases rd with
  | nil => exact p.elim
  | @cons d v ds' vs' rd rest =>
    cases rest with
    | cons _ _ => exact p.elim
    | nil =>
      unfold vTuple at p
      simp only at p
      cases q : seqOf d h with
      | none => rw [q] at p; exact p.elim
      | some xs =>
        rw [q] at p
        obtain ⟨a, ys, rfl, ra, hh⟩ := seqOf_ok hr rd q
        refine call_tuple_of pins s σ H _ us Q I r ⟨a, ys, rfl, ?_⟩
        rcases hh with ⟨z, _⟩ | z
        · exact .inr ⟨z, p _ _ _ (Ext.refl _ _) hr (.tup z ra)⟩
        · exact .inl ⟨z, fun l hl => p _ _ _ (Ext.tupled hl) (hr.tupled hl) (.tup (.inl (.inl upd_same)) (ra.mono (Ext.tupled hl)))⟩
theorem ints_ok {K : PySem.W.Frag} {H : Hp} {mu : List Addr} : ∀ {ds : List D} {xs : List V} {ns : List Int}, RpA K H mu ds xs → intsOf ds = some ns → xs = ns.map V.int
  | _, _, _, .nil, h => by cases h; rfl
  | d :: ds, _, ns, .cons a b, h => by
    cases a with
    | int i =>
      unfold intsOf at h
      cases q : intsOf ds with
      | none => rw [q] at h; cases h
      | some r => rw [q] at h; cases h; rw [ints_ok b q]; rfl
    | _ => cases h
theorem bls_ok {K : PySem.W.Frag} {H : Hp} {mu : List Addr} : ∀ {ds : List D} {xs : List V} {ns : List Bool}, RpA K H mu ds xs → blsOf ds = some ns → xs = ns.map V.bl
  | _, _, _, .nil, h => by cases h; rfl
  | d :: ds, _, ns, .cons a b, h => by
    cases a with
    | bl i =>
      unfold blsOf at h
      cases q : blsOf ds with
      | none => rw [q] at h; cases h
      | some r => rw [q] at h; cases h; rw [bls_ok b q]; rfl
    | _ => cases h
theorem foldl_max : ∀ (r : List Int) (x : Int), (r.foldl max x = x ∨ r.foldl max x ∈ r) ∧ x ≤ r.foldl max x ∧ ∀ y ∈ r, y ≤ r.foldl max x
  | [], x => ⟨.inl rfl, Int.le_refl _, fun _ h => nomatch h⟩
  | z :: r, x => by
    obtain ⟨h1, h2, h3⟩ := foldl_max r (max x z)
    rw [List.foldl_cons]
    refine ⟨?_, by omega, fun y hy => ?_⟩
    · rcases h1 with h1 | h1
      · by_cases hz : x ≤ z
        · right; rw [h1, Int.max_eq_right hz]; exact List.mem_cons_self
        · left; rw [h1]; omega
      · right; exact List.mem_cons_of_mem _ h1
    · rcases List.mem_cons.mp hy with e | e
      · subst e; omega
      · exact h3 y e
theorem foldl_min : ∀ (r : List Int) (x : Int), (r.foldl min x = x ∨ r.foldl min x ∈ r) ∧ r.foldl min x ≤ x ∧ ∀ y ∈ r, r.foldl min x ≤ y
  | [], x => ⟨.inl rfl, Int.le_refl _, fun _ h => nomatch h⟩
  | z :: r, x => by
    obtain ⟨h1, h2, h3⟩ := foldl_min r (min x z)
    rw [List.foldl_cons]
    refine ⟨?_, by omega, fun y hy => ?_⟩
    · rcases h1 with h1 | h1
      · by_cases hz : z ≤ x
        · right; rw [h1, Int.min_eq_right hz]; exact List.mem_cons_self
        · left; rw [h1]; omega
      · right; exact List.mem_cons_of_mem _ h1
    · rcases List.mem_cons.mp hy with e | e
      · subst e; omega
      · exact h3 y e
theorem maxI_eq {x : Int} {r : List Int} {m : Int} (h1 : m ∈ x :: r) (h2 : ∀ y ∈ x :: r, y ≤ m) : m = maxI (x :: r) := by
  obtain ⟨g1, g2, g3⟩ := foldl_max r x
  show m = r.foldl max x
  have a : r.foldl max x ≤ m := by
    rcases g1 with e | e
    · rw [e]; exact h2 _ List.mem_cons_self
    · exact h2 _ (List.mem_cons_of_mem _ e)
  have b : m ≤ r.foldl max x := by
    rcases List.mem_cons.mp h1 with e | e
    · rw [e]; exact g2
    · exact g3 _ e
  omega
theorem minI_eq {x : Int} {r : List Int} {m : Int} (h1 : m ∈ x :: r) (h2 : ∀ y ∈ x :: r, m ≤ y) : m = minI (x :: r) := by
  obtain ⟨g1, g2, g3⟩ := foldl_min r x
  show m = r.foldl min x
  have a : m ≤ r.foldl min x := by
    rcases g1 with e | e
    · rw [e]; exact h2 _ List.mem_cons_self
    · exact h2 _ (List.mem_cons_of_mem _ e)
  have b : r.foldl min x ≤ m := by
    rcases List.mem_cons.mp h1 with e | e
    · rw [e]; exact g2
    · exact g3 _ e
  omega
theorem b_max (hc : X.calm = true) : CallR X (.builtin "max") (rN X.K cl vMax) := by
  intro pins s σ H vs us Q I r ⟨mu, h, ds, hr, rd, p⟩
  have one : ∀ {d : D} {v : V} {us : List Value}, Rp X.K H mu d v → Vals [v] us → PostO X.K cl H mu (match (listOf1 d h).bind intsOf with | some (x :: r) => some (.int (maxI (x :: r)), h) | _ => none) Q →
      wpAny (model X.prog X.w) X.A (call (.builtin "max") us) (EP X pins σ Q) X.xe s := fun {d v us} rd r p => by
    cases q : listOf1 d h with
    | none => rw [q] at p; exact p.elim
    | some xs =>
      rw [q] at p
      simp only [Option.bind_some] at p
      obtain ⟨a, ys, rfl, g1, k1⟩ := listOf1_ok hr rd q
      cases q2 : intsOf xs with
      | none => rw [q2] at p; exact p.elim
      | some ns =>
        rw [q2] at p
        cases ns with
        | nil => exact p.elim
        | cons n r' =>
          have := ints_ok k1 q2
          subst this
          refine cr_max hc pins s σ H _ us Q I r ⟨a, n :: r', rfl, g1, by simp, fun m h1 h2 => ?_⟩
          rw [maxI_eq h1 h2]
          exact p _ _ _ (Ext.refl _ _) hr (.int _)
  cases rd with
  | nil => exact p.elim
  | @cons d v ds' vs' rd rest =>
    cases rest with
    | nil => cases rd <;> first | exact one (.int _) r p | exact p.elim | exact one (by assumption) r p | (rename_i hn; exact one (.ref hn) r p) | (rename_i sa ra; exact one (.sl sa ra) r p)
    | @cons d2 v2 _ _ rd2 rest2 =>
      cases rest2 with
      | nil =>
        cases rd with
        | int i =>
          cases rd2 with
          | int j => exact call_max2 hc pins s σ H _ us Q I r ⟨i, j, rfl, p _ _ _ (Ext.refl _ _) hr (.int _)⟩
          | _ => exact p.elim
        | _ => exact p.elim
      | cons _ _ => cases d <;> first | exact p.elim | (cases d2 <;> exact p.elim)
theorem b_min (hc : X.calm = true) : CallR X (.builtin "min") (rN X.K cl vMin) := by
  intro pins s σ H vs us Q I r ⟨mu, h, ds, hr, rd, p⟩
  have one : ∀ {d : D} {v : V} {us : List Value}, Rp X.K H mu d v → Vals [v] us → PostO X.K cl H mu (match (listOf1 d h).bind intsOf with | some (x :: r) => some (.int (minI (x :: r)), h) | _ => none) Q →
      wpAny (model X.prog X.w) X.A (call (.builtin "min") us) (EP X pins σ Q) X.xe s := fun {d v us} rd r p => by
    cases q : listOf1 d h with
    | none => rw [q] at p; exact p.elim
    | some xs =>
      rw [q] at p
      simp only [Option.bind_some] at p
      obtain ⟨a, ys, rfl, g1, k1⟩ := listOf1_ok hr rd q
      cases q2 : intsOf xs with
      | none => rw [q2] at p; exact p.elim
      | some ns =>
        rw [q2] at p
        cases ns with
        | nil => exact p.elim
        | cons n r' =>
          have := ints_ok k1 q2
          subst this
          refine cr_min hc pins s σ H _ us Q I r ⟨a, n :: r', rfl, g1, by simp, fun m h1 h2 => ?_⟩
          rw [minI_eq h1 h2]
          exact p _ _ _ (Ext.refl _ _) hr (.int _)
  cases rd with
  | nil => exact p.elim
  | @cons d v ds' vs' rd rest =>
    cases rest with
    | nil => cases rd <;> first | exact one (.int _) r p | exact p.elim | exact one (by assumption) r p | (rename_i hn; exact one (.ref hn) r p) | (rename_i sa ra; exact one (.sl sa ra) r p)
    | @cons d2 v2 _ _ rd2 rest2 =>
      cases rest2 with
      | nil =>
        cases rd with
        | int i =>
          cases rd2 with
          | int j => exact call_min2 hc pins s σ H _ us Q I r ⟨i, j, rfl, p _ _ _ (Ext.refl _ _) hr (.int _)⟩
          | _ => exact p.elim
        | _ => exact p.elim
      | cons _ _ => cases d <;> first | exact p.elim | (cases d2 <;> exact p.elim)
theorem b_any (hc : X.calm = true) : CallR X (.builtin "any") (rN X.K cl vAny) := by
  intro pins s σ H vs us Q I r ⟨mu, h, ds, hr, rd, p⟩
  cases rd with
  | nil => exact p.elim
  | @cons d v ds' vs' rd rest =>
    cases rest with
    | cons _ _ => exact p.elim
    | nil =>
      unfold vAny at p
      simp only at p
      cases q : listOf1 d h with
      | none => rw [q] at p; exact p.elim
      | some xs =>
        rw [q] at p
        simp only [Option.bind_some] at p
        obtain ⟨a, ys, rfl, g1, k1⟩ := listOf1_ok hr rd q
        cases q2 : blsOf xs with
        | none => rw [q2] at p; exact p.elim
        | some ns =>
          rw [q2] at p
          have := bls_ok k1 q2
          subst this
          exact cr_any hc pins s σ H _ us Q I r ⟨a, ns, rfl, g1, p _ _ _ (Ext.refl _ _) hr (.bl _)⟩
theorem b_all (hc : X.calm = true) : CallR X (.builtin "all") (rN X.K cl vAll) := by
  intro pins s σ H vs us Q I r ⟨mu, h, ds, hr, rd, p⟩
  cases rd with
  | nil => exact p.elim
  | @cons d v ds' vs' rd rest =>
    cases rest with
    | cons _ _ => exact p.elim
    | nil =>
      unfold vAll at p
      simp only at p
      cases q : listOf1 d h with
      | none => rw [q] at p; exact p.elim
      | some xs =>
        rw [q] at p
        simp only [Option.bind_some] at p
        obtain ⟨a, ys, rfl, g1, k1⟩ := listOf1_ok hr rd q
        cases q2 : blsOf xs with
        | none => rw [q2] at p; exact p.elim
        | some ns =>
          rw [q2] at p
          have := bls_ok k1 q2
          subst this
          exact cr_all hc pins s σ H _ us Q I r ⟨a, ns, rfl, g1, p _ _ _ (Ext.refl _ _) hr (.bl _)⟩
end
end DS

set_option Elab.async false
set_option linter.all false
set_option maxRecDepth 100000
set_option maxHeartbeats 4000000
/-! DSE: isinstance, methods, slices, dicts, chains: the rules. -/
namespace DS
open PySem PySem.Spec PyProof.Rows L2
theorem kt_non : ∀ T : Ty, kitB "NoneType" T.name = some false := fun T => by cases T <;> decide +kernel
theorem kt_bl : ∀ T : Ty, kitB "bool" T.name = some (match T with | .bl => true | .int => true | _ => false) := fun T => by cases T <;> decide +kernel
theorem kt_int : ∀ T : Ty, kitB "int" T.name = some (match T with | .int => true | _ => false) := fun T => by cases T <;> decide +kernel
theorem kt_str : ∀ T : Ty, kitB "str" T.name = some (match T with | .str => true | _ => false) := fun T => by cases T <;> decide +kernel
theorem kt_tup : ∀ T : Ty, kitB "tuple" T.name = some (match T with | .tup => true | _ => false) := fun T => by cases T <;> decide +kernel
theorem kt_lst : ∀ T : Ty, kitB "list" T.name = some (match T with | .lst => true | _ => false) := fun T => by cases T <;> decide +kernel
theorem kt_dct : ∀ T : Ty, kitB "dict" T.name = some (match T with | .dct => true | _ => false) := fun T => by cases T <;> decide +kernel
theorem isi_ok {K : PySem.W.Frag} {cl : Nat → Addr} {H : Hp} {mu : List Addr} {h : Hs} {d : D} {v : V} {T : Ty} {b : Bool} (hr : HR K H mu cl h) (r : Rp K H mu d v) (e : isiD T d h = some b) : ∃ t, TyX K H v t ∧ PySem.W.kitOne K t (.type T.name) = some b := by
  cases r with
  | non => cases e; exact ⟨_, .base .non, kit_ty (kt_non T)⟩
  | bl x => cases e; exact ⟨_, .base (.bl x), kit_ty (kt_bl T)⟩
  | int x => cases e; exact ⟨_, .base (.int x), kit_ty (kt_int T)⟩
  | str x => cases e; exact ⟨_, .base (.str x), kit_ty (kt_str T)⟩
  | tup s ra =>
    cases e
    refine ⟨.type "tuple", ?_, kit_ty (kt_tup T)⟩
    rcases s with (s | ⟨o, s⟩) | ⟨o, its, n, k1, k2, _⟩
    · exact .base (.tup s)
    · exact .fTuple s
    · exact .kTuple k1 k2
  | sl s ra => cases e
  | @ref n a hn =>
    unfold isiD at e
    simp only at e
    split at e
    · rename_i xs q
      cases e
      obtain ⟨a', ha', ys, g1, k1⟩ := hr.at q
      rw [hn] at ha'; cases ha'
      exact ⟨_, .base (.lst g1), kit_ty (kt_lst T)⟩
    · rename_i xs q
      cases e
      obtain ⟨a', ha', ys, g1, k1⟩ := hr.at q
      rw [hn] at ha'; cases ha'
      exact ⟨_, .base (.dK g1), kit_ty (kt_dct T)⟩
    · rename_i xs q
      cases e
      obtain ⟨a', ha', ys, g1, k1⟩ := hr.at q
      rw [hn] at ha'; cases ha'
      exact ⟨_, .base (.dT g1), kit_ty (kt_dct T)⟩
    · cases e
section
variable {X : Cx} {cl : Nat → Addr} {W : WX} {a b c e o i : Expr} {es : List Expr} {ma mb mc : ME} {mt mu' : MT} {ms : MA} {pos p p2 p3 : Pos}
theorem se_isi {T : Ty} {x : Str} (hm : X.mg "isinstance" = none) (hmT : X.mg x = none) (hvT : bootBuiltins x = some (.type T.name)) (ha : SE X cl W e ma) (hg : Gl X "isinstance" := by rfl) (hgT : Gl X x := by rfl)
    (hnT : x ≠ "__name__" := by decide) (hdT : (x == ("__debug__" : Str)) = false := by decide)
    (hs0 : starEach [e, .Name x p2] X.env = (false, eval e X.env) :: starEach [.Name x p2] X.env := by rfl) (hs1 : starEach [.Name x p2] X.env = (false, eval (.Name x p2) X.env) :: starEach [] X.env := by rfl)
    (hpl : (backTo pos (starEach [.Name x p2] X.env)).any (·.1) = false := by rfl) : SE X cl W (.Call (.Name "isinstance" p) [e, .Name x p2] [] pos) (eIsi T ma) :=
  PE.imp (pe_callB call_isi hg hm (by decide +kernel) (pa_cons ha (pa_cons (pe_bltn (v := .ty T.name) hgT hmT hvT rfl hnT hdT) pa_nil hs1) hs0) (by decide) (by decide) hs0 hpl) fun sg H Q ⟨mu, env, h, rel, p⟩ =>
    ⟨mu, env, h, rel, (Post.bind p).mono fun b H1 ⟨mu1, d, h1, e, hr, rb, p1⟩ => by
      have p1 := PostO.of p1
      cases q : isiD T d h1 with
      | none => rw [q] at p1; exact p1.elim
      | some r =>
        rw [q] at p1
        obtain ⟨t, h1', h2⟩ := isi_ok hr rb q
        exact ⟨b, .ty T.name, t, .type T.name, r, rfl, .ty _, h1', h2, p1 _ _ _ (Ext.refl _ _) hr (.bl r)⟩⟩
/-! ### methods of lists -/
def rM (K : PySem.W.Frag) (cl : Nat → Addr) (g : OM) : V → List V → Hp → VK → Prop := fun x xs H Q => ∃ mu h d ds, HR K H mu cl h ∧ Rp K H mu d x ∧ RpA K H mu ds xs ∧ PostO K cl H mu (g d ds h) Q
theorem isL_ok {K : PySem.W.Frag} {H : Hp} {mu : List Addr} {h : Hs} {d : D} {v : V} (hr : HR K H mu cl h) (r : Rp K H mu d v) (q : isL d h = true) : tyV K "list" v H := by
  unfold isL at q
  obtain ⟨xs, e⟩ := Option.isSome_iff_exists.mp q
  obtain ⟨a, ys, rfl, h1, h2⟩ := listOf1_ok hr r e
  exact .inl ⟨rfl, ys, h1⟩
theorem se_ml {name : Str} {id : String} {g : OM} {apos cpos : Pos} (slot : Slot "list" name id) (hty : typeOf (.builtin id) = pure (.type "method_descriptor")) (hm : MtR X id (rM X.K cl g)) (ho : SE X cl W o ma) (ha : SA X cl W (e :: es) ms)
    (hbase : attributeBase o name X.env (eval o X.env) = eval o X.env := by rfl)
    (hfew : ((backTo cpos (starEach (e :: es) X.env)).all (fun x => !x.1) && (backToKw cpos (keywordEach [] X.env)).all (fun x => x.1.isSome)
      && decide ((e :: es).length + ([] : List Keyword).length + (if ([] : List Keyword).isEmpty then 0 else 1) < 30)) = true := by rfl)
    (hline : (apos.endLine == cpos.line) = true := by rfl) (hs : starEach (e :: es) X.env = (false, eval e X.env) :: starEach es X.env := by rfl) (hplain : (backTo cpos (starEach es X.env)).any (·.1) = false := by rfl) :
    SE X cl W (.Call (.Attribute o name apos) (e :: es) [] cpos) (eMethL g ma ms) :=
  PE.imp (pe_bm PySem.F.plainAttrs_list slot hty hm ho ha hbase hfew hline hs hplain) fun sg H Q ⟨mu, env, h, rel, p⟩ =>
    ⟨mu, env, h, rel, (Post.bind p).mono fun b H1 ⟨mu1, d, h1, e, hr, rb, p1⟩ => by
      split at p1
      · rename_i hl
        refine ⟨isL_ok hr rb hl, mu1, env, h1, ⟨hr, rel.er.mono e⟩, (Post.bind p1).mono fun b2 H2 ⟨mu2, d2, h2, e2, hr2, rb2, p2⟩ => ?_⟩
        exact ⟨mu2, h2, d, d2, hr2, rb.mono e2, rb2, .of p2⟩
      · exact p1.elim⟩
theorem se_ml0 {name : Str} {id : String} {g : OM} {apos cpos : Pos} (slot : Slot "list" name id) (hty : typeOf (.builtin id) = pure (.type "method_descriptor")) (hm : MtR X id (rM X.K cl g)) (ho : SE X cl W o ma)
    (hbase : attributeBase o name X.env (eval o X.env) = eval o X.env := by rfl) (hline : (apos.endLine == cpos.line) = true := by rfl) :
    SE X cl W (.Call (.Attribute o name apos) [] [] cpos) (eMethL g ma aNil) :=
  PE.imp (pe_bm0 PySem.F.plainAttrs_list slot hty hm ho hbase hline) fun sg H Q ⟨mu, env, h, rel, p⟩ =>
    ⟨mu, env, h, rel, (Post.bind p).mono fun b H1 ⟨mu1, d, h1, e, hr, rb, p1⟩ => by
      split at p1
      · rename_i hl
        exact ⟨isL_ok hr rb hl, mu1, h1, d, [], hr, rb, .nil, .of p1⟩
      · exact p1.elim⟩
theorem m_append : MtR X "list.append" (rM X.K cl vAppend) := by
  intro pins s σ H x xs v us Q I rx rxs ⟨mu, h, d, ds, hr, rd, rds, p⟩
  cases rd with
  | @ref n a hn =>
    cases rds with
    | nil => exact p.elim
    | @cons d1 v1 _ _ rd1 rest =>
      cases rest with
      | cons _ _ => exact p.elim
      | nil =>
        unfold vAppend at p
        simp only at p
        split at p
        · rename_i ys q
          split at p
          · rename_i hz
            obtain ⟨a', ha', zs, g1, k1⟩ := hr.at q
            rw [hn] at ha'; cases ha'
            refine mt_append pins s σ H _ _ v us Q I rx rxs ⟨a, zs, v1, rfl, rfl, g1, by rw [← k1.length]; exact hz, ?_⟩
            have E : Ext H mu (upd H a (.lst (zs ++ [v1]))) mu := Ext.written hn g1 (by intro _ z; cases z) (by intro _ _ z; cases z)
            exact p _ _ _ E (hr.written hn g1 (by intro _ z; cases z) (by intro _ _ z; cases z) ⟨_, upd_same, (k1.append (.one rd1)).mono E⟩) .non
          · exact p.elim
        · exact p.elim
  | _ => exact p.elim
theorem m_extend : MtR X "list.extend" (rM X.K cl vExtend) := by
  intro pins s σ H x xs v us Q I rx rxs ⟨mu, h, d, ds, hr, rd, rds, p⟩
  cases rd with
  | @ref n a hn =>
    cases rds with
    | nil => exact p.elim
    | @cons d1 v1 _ _ rd1 rest =>
      cases rest with
      | cons _ _ => cases d1 <;> exact p.elim
      | nil =>
        cases rd1 with
        | @ref m b hm =>
          unfold vExtend at p
          simp only at p
          split at p
          · rename_i ys ws q1 q2
            split at p
            · rename_i hz
              obtain ⟨a', ha', zs, g1, k1⟩ := hr.at q1
              rw [hn] at ha'; cases ha'
              obtain ⟨b', hb', ts, g2, k2⟩ := hr.at q2
              rw [hm] at hb'; cases hb'
              refine mt_extend pins s σ H _ _ v us Q I rx rxs ⟨a, b, zs, ts, rfl, rfl, g1, g2, by rw [← k1.length, ← k2.length]; exact hz, ?_⟩
              have E : Ext H mu (upd H a (.lst (zs ++ ts))) mu := Ext.written hn g1 (by intro _ z; cases z) (by intro _ _ z; cases z)
              exact p _ _ _ E (hr.written hn g1 (by intro _ z; cases z) (by intro _ _ z; cases z) ⟨_, upd_same, (k1.append k2).mono E⟩) .non
            · exact p.elim
          · exact p.elim
        | _ => exact p.elim
  | _ => exact p.elim
theorem m_pop : MtR X "list.pop" (rM X.K cl vPop) := by
  intro pins s σ H x xs v us Q I rx rxs ⟨mu, h, d, ds, hr, rd, rds, p⟩
  cases rd with
  | @ref n a hn =>
    cases rds with
    | cons _ _ => exact p.elim
    | nil =>
      unfold vPop at p
      simp only at p
      split at p
      · rename_i ys q
        split at p
        · rename_i y hy
          obtain ⟨a', ha', zs, g1, k1⟩ := hr.at q
          rw [hn] at ha'; cases ha'
          obtain ⟨w, hw, rw'⟩ := k1.get hy
          rw [k1.length] at hw
          refine mt_pop pins s σ H _ _ v us Q I rx rxs ⟨a, zs, w, rfl, rfl, g1, hw, ?_⟩
          have E : Ext H mu (upd H a (.lst zs.dropLast)) mu := Ext.written hn g1 (by intro _ z; cases z) (by intro _ _ z; cases z)
          exact p _ _ _ E (hr.written hn g1 (by intro _ z; cases z) (by intro _ _ z; cases z) ⟨_, upd_same, k1.dropLast.mono E⟩) (rw'.mono E)
        · exact p.elim
      · exact p.elim
  | _ => exact p.elim
theorem se_append {apos cpos : Pos} (ho : SE X cl W o ma) (ha : SA X cl W [e] ms)
    (hbase : attributeBase o "append" X.env (eval o X.env) = eval o X.env := by rfl)
    (hfew : ((backTo cpos (starEach [e] X.env)).all (fun x => !x.1) && (backToKw cpos (keywordEach [] X.env)).all (fun x => x.1.isSome)
      && decide ([e].length + ([] : List Keyword).length + (if ([] : List Keyword).isEmpty then 0 else 1) < 30)) = true := by rfl)
    (hline : (apos.endLine == cpos.line) = true := by rfl) (hs : starEach [e] X.env = (false, eval e X.env) :: starEach [] X.env := by rfl) :
    SE X cl W (.Call (.Attribute o "append" apos) [e] [] cpos) (eMethL vAppend ma ms) := se_ml PySem.F.slot_list_append PySem.F.type_list_append m_append ho ha hbase hfew hline hs
theorem se_extend {apos cpos : Pos} (ho : SE X cl W o ma) (ha : SA X cl W [e] ms)
    (hbase : attributeBase o "extend" X.env (eval o X.env) = eval o X.env := by rfl)
    (hfew : ((backTo cpos (starEach [e] X.env)).all (fun x => !x.1) && (backToKw cpos (keywordEach [] X.env)).all (fun x => x.1.isSome)
      && decide ([e].length + ([] : List Keyword).length + (if ([] : List Keyword).isEmpty then 0 else 1) < 30)) = true := by rfl)
    (hline : (apos.endLine == cpos.line) = true := by rfl) (hs : starEach [e] X.env = (false, eval e X.env) :: starEach [] X.env := by rfl) :
    SE X cl W (.Call (.Attribute o "extend" apos) [e] [] cpos) (eMethL vExtend ma ms) := se_ml PySem.F.slot_list_extend PySem.F.type_list_extend m_extend ho ha hbase hfew hline hs
theorem se_pop {apos cpos : Pos} (ho : SE X cl W o ma) (hbase : attributeBase o "pop" X.env (eval o X.env) = eval o X.env := by rfl) (hline : (apos.endLine == cpos.line) = true := by rfl) :
    SE X cl W (.Call (.Attribute o "pop" apos) [] [] cpos) (eMethL vPop ma aNil) := se_ml0 PySem.F.slot_list_pop PySem.F.type_list_pop m_pop ho hbase hline

/-! ### slices -/
def tO (K : PySem.W.Frag) (cl : Nat → Addr) (W : WX) (m : MO) : L2.TO := fun sg H Q => ∃ mu env h, Rel K cl H mu h env sg ∧ Post (fun _ _ a b => a = b) K cl W sg H mu (m env h) Q
abbrev SO (X : Cx) (cl : Nat → Addr) (W : WX) (e : Option Expr) (m : MO) : Prop := PO X e (tO X.K cl W m)
theorem PO.imp {X : Cx} {e : Option Expr} {t t' : L2.TO} (h : PO X e t) (hi : ∀ sg H Q, t' sg H Q → t sg H Q) : PO X e t' := ⟨fun pins s σ H Q I q => h.run pins s σ H Q I (hi _ _ _ q)⟩
theorem so_none : SO X cl W none oNone := PO.imp po_none fun sg H Q ⟨mu, env, h, rel, p⟩ => p _ _ _ (Ext.refl _ _) rel.hr rfl
theorem so_some (ha : SE X cl W a ma) : SO X cl W (some a) (oSome ma) := PO.imp (po_some ha) fun sg H Q ⟨mu, env, h, rel, p⟩ =>
    ⟨mu, env, h, rel, (Post.bind p).mono fun b H1 ⟨mu1, d, h1, e, hr, rb, p1⟩ => by
      cases rb with
      | int i => exact ⟨i, rfl, p1 _ _ _ (Ext.refl _ _) hr rfl⟩
      | _ => exact p1.elim⟩
def rSl (K : PySem.W.Frag) (cl : Nat → Addr) : V → Option Int → Option Int → Hp → VK → Prop := fun x lo hi H Q => ∃ mu h d, HR K H mu cl h ∧ Rp K H mu d x ∧ PostO K cl H mu (vSl d lo hi h) Q
theorem RpA.cut {K : PySem.W.Frag} {H : Hp} {mu : List Addr} {ds : List D} {vs : List V} (h : RpA K H mu ds vs) (lo hi : Option Int) : RpA K H mu (cut ds lo hi) (cutV vs lo hi) := by
  unfold DS.cut cutV
  rw [h.length]
  exact (h.drop _).take _
theorem o_sl : SlR X (rSl X.K cl) := by
  intro pins s σ H x v vl vu lo hi sl Q I rx hs pl pu ⟨mu, h, d, hr, rd, p⟩
  cases rd with
  | @tup a xs ds sa ra =>
    refine sl_tupA pins s σ H _ v vl vu lo hi sl Q I rx hs pl pu ⟨a, xs, rfl, sa, fun hw => ?_, fun hw q hq => ?_⟩
    · have e : DS.cut ds lo hi = ds := by
        unfold DS.cut
        rw [ra.length, hw.1, hw.2]
        simp only [List.drop_zero, Nat.sub_zero]
        exact List.take_of_length_le (by rw [ra.length]; exact Nat.le_refl _)
      have p : PostO X.K cl H mu (some (.tup (DS.cut ds lo hi), h)) Q := p
      rw [e] at p
      exact p _ _ _ (Ext.refl _ _) hr (.tup sa ra)
    · exact p _ _ _ (Ext.tupled hq) (hr.tupled hq) (.tup (.inl (.inl upd_same)) ((ra.cut lo hi).mono (Ext.tupled hq)))
  | @ref n a hn =>
    unfold vSl at p
    simp only at p
    cases q : listOf1 (.ref n) h with
    | none => rw [q] at p; exact p.elim
    | some xs =>
      rw [q] at p
      obtain ⟨a', ys, e1, h1, h2⟩ := listOf1_ok hr (.ref hn) q
      cases e1
      refine sl_list pins s σ H _ v vl vu lo hi sl Q I rx hs pl pu ⟨a, ys, rfl, h1, fun q hq => ?_⟩
      refine p _ _ _ (Ext.allocd hq) (hr.allocd hq ⟨_, upd_same, (h2.cut lo hi).mono (Ext.allocd hq)⟩) (.ref ?_)
      rw [← hr.len]; simp
  | @sl a xs ds sa ra =>
    refine sl_list pins s σ H _ v vl vu lo hi sl Q I rx hs pl pu ⟨a, xs, rfl, sa.sql, fun q hq => ?_⟩
    refine p _ _ _ (Ext.allocd hq) (hr.allocd hq ⟨_, upd_same, (ra.cut lo hi).mono (Ext.allocd hq)⟩) (.ref ?_)
    rw [← hr.len]; simp
  | _ => exact p.elim
theorem se_sl {lo hi : Option Expr} {ml mh : MO} (ha : SE X cl W a ma) (hl : SO X cl W lo ml) (hh : SO X cl W hi mh) : SE X cl W (.Subscript a (.Slice lo hi none p2) pos) (eSl ma ml mh) :=
  PE.imp (pe_slice o_sl ha hl hh) fun sg H Q ⟨mu, env, h, rel, p⟩ => ⟨mu, env, h, rel, (Post.bind p).mono fun b H1 ⟨mu1, d, h1, e, hr, rb, p1⟩ =>
    ⟨mu1, env, h1, ⟨hr, rel.er.mono e⟩, (Post.bind (rl := fun _ _ a b => a = b) p1).mono fun b2 H2 ⟨mu2, d2, h2, e2, hr2, rb2, p2⟩ =>
      ⟨mu2, env, h2, ⟨hr2, (rel.er.mono e).mono e2⟩, (Post.bind (rl := fun _ _ a b => a = b) p2).mono fun b3 H3 ⟨mu3, d3, h3, e3, hr3, rb3, p3⟩ => by
        subst rb2 rb3
        exact ⟨mu3, h3, d, hr3, (rb.mono e2).mono e3, .of p3⟩⟩⟩⟩

/-! ### chains, is -/
theorem o_is : OpR X (compareOp .Is) (r2 X.K cl vIsN) := by
  intro pins s σ H x y v u Q I rx ry ⟨mu, h, d, e, hr, rd, re, p⟩
  cases re with
  | non =>
    refine op_isN pins s σ H x _ v u Q I rx ry ⟨rfl, ?_⟩
    rw [isNon_ok rd]
    cases rd <;> exact p _ _ _ (Ext.refl _ _) hr (.bl _)
  | bl k =>
    cases rd with
    | bl j =>
      refine op_isBl pins s σ H _ _ v u Q I rx ry ⟨j, k, rfl, rfl, ?_⟩
      have := p _ _ _ (Ext.refl _ _) hr (.bl _)
      rw [show decide (j = k) = (j == k) by cases j <;> cases k <;> rfl]
      exact this
    | _ => exact p.elim
  | _ => cases rd <;> exact p.elim
theorem o_isNot : OpR X (compareOp .IsNot) (r2 X.K cl vNotN) := by
  intro pins s σ H x y v u Q I rx ry ⟨mu, h, d, e, hr, rd, re, p⟩
  cases re with
  | non =>
    refine op_notN pins s σ H x _ v u Q I rx ry ⟨rfl, ?_⟩
    rw [isNon_ok rd]
    cases rd <;> exact p _ _ _ (Ext.refl _ _) hr (.bl _)
  | bl k =>
    cases rd with
    | bl j =>
      refine op_notBl pins s σ H _ _ v u Q I rx ry ⟨j, k, rfl, rfl, ?_⟩
      have := p _ _ _ (Ext.refl _ _) hr (.bl _)
      rw [show decide (j = k) = (j == k) by cases j <;> cases k <;> rfl]
      exact this
    | _ => exact p.elim
  | _ => cases rd <;> exact p.elim
theorem stepCh {g g' : O2} : ∀ (sg : Sg) (H : Hp) (Q : VK), tE X.K cl W (eChain g g' ma mb mc) sg H Q → tChain (r2 X.K cl g) (r2 X.K cl g') (tE X.K cl W ma) (tE X.K cl W mb) (tE X.K cl W mc) sg H Q :=
  fun sg H Q ⟨mu, env, h, rel, p⟩ => ⟨mu, env, h, rel, (Post.bind p).mono fun b H1 ⟨mu1, d, h1, e, hr, rb, p1⟩ =>
    ⟨mu1, env, h1, ⟨hr, rel.er.mono e⟩, (Post.bind p1).mono fun b2 H2 ⟨mu2, d2, h2, e2, hr2, rb2, p2⟩ => by
      refine ⟨mu2, h2, d, d2, hr2, rb.mono e2, rb2, ?_⟩
      have p2 := Post.bind (rl := Rp X.K) p2
      refine .of (p2.mono fun b3 H3 ⟨mu3, d3, h3, e3, hr3, rb3, p3⟩ => ?_)
      cases rb3 with
      | bl k =>
        refine ⟨k, rfl, ?_⟩
        cases k with
        | true =>
          refine ⟨mu3, env, h3, ⟨hr3, ((rel.er.mono e).mono e2).mono e3⟩, (Post.bind p3).mono fun b4 H4 ⟨mu4, d4, h4, e4, hr4, rb4, p4⟩ => ?_⟩
          exact ⟨mu4, h4, d2, d4, hr4, (rb2.mono e3).mono e4, rb4, .of p4⟩
        | false => exact p3 _ _ _ (Ext.refl _ _) hr3 (.bl _)
      | _ => exact p3.elim⟩⟩
theorem se_chain {op op' : CmpOp} {g g' : O2} (ho : OpR X (compareOp op) (r2 X.K cl g)) (ho' : OpR X (compareOp op') (r2 X.K cl g')) (ha : SE X cl W a ma) (hb : SE X cl W b mb) (hc : SE X cl W c mc)
    (hm : lastMarks [op, op'] [b, c] = false := by with_unfolding_all rfl) : SE X cl W (.Compare a [op, op'] [b, c] pos) (eChain g g' ma mb mc) := PE.imp (pe_chain ho ho' ha hb hc hm) stepCh
theorem st_chain {op op' : CmpOp} {g g' : O2} (ho : OpR X (compareOp op) (r2 X.K cl g)) (ho' : OpR X (compareOp op') (r2 X.K cl g')) (ha : SE X cl W a ma) (hb : SE X cl W b mb) (hc : SE X cl W c mc)
    (hm : lastMarks [op, op'] [b, c] = false := by with_unfolding_all rfl) : ST X cl W (.Compare a [op, op'] [b, c] pos) (tsB (eChain g g' ma mb mc)) := PT.imp (pt_chain ho ho' ha hb hc hm) (stepB stepCh)

/-! ### dicts -/
theorem keyD_ok {K : PySem.W.Frag} {H : Hp} {mu : List Addr} {d : D} {v : V} {k : Key} (r : Rp K H mu d v) (e : keyD d = some k) : v = kV k := by
  cases r with
  | int i => cases e; rfl
  | str i => cases e; rfl
  | _ => cases e
theorem getK_ok {K : PySem.W.Frag} {H : Hp} {mu : List Addr} {κ : Type} [DecidableEq κ] {k : κ} {d : D} : ∀ {kvs : List (κ × D)} {ks : List (κ × V)}, RpP K H mu kvs ks → getK kvs k = some d → ∃ v, valV ks k = some v ∧ Rp K H mu d v
  | _, _, .nil, h => by cases h
  | (q, x) :: r, (q', y) :: r', .cons ⟨e, a⟩ b, h => by
    have e : q = q' := e
    subst e
    by_cases hq : q = k
    · subst hq
      simp only [getK, List.find?_cons, decide_true, Option.map_some, Option.some.injEq] at h
      subst h
      exact ⟨y, valV_pos rfl, a⟩
    · have h' : getK r k = some d := by
        simpa [getK, List.find?_cons, hq] using h
      obtain ⟨v, h1, h2⟩ := getK_ok b h'
      exact ⟨v, by rw [valV_neg hq]; exact h1, h2⟩
theorem se_dget (hu : X.A.units + 1 < cLine) (ho : SE X cl W o ma) (hi : SE X cl W i mb) (hs : NoSl i := by exact fun _ _ => rfl) : SE X cl W (.Subscript o i pos) (eOp2 vDGet ma mb) :=
  PE.imp (pe_dget hu ho hi hs) fun sg H Q ⟨mu, env, h, rel, p⟩ => ⟨mu, env, h, rel, (Post.bind p).mono fun b H1 ⟨mu1, d, h1, e, hr, rb, p1⟩ =>
    ⟨mu1, env, h1, ⟨hr, rel.er.mono e⟩, (Post.bind p1).mono fun b2 H2 ⟨mu2, d2, h2, e2, hr2, rb2, p2⟩ => by
      have p2 := PostO.of p2
      have rb := rb.mono e2
      cases rb with
      | @ref n a hn =>
        unfold vDGet at p2
        simp only at p2
        split at p2
        · rename_i kvs q
          obtain ⟨a', ha', ks, g1, k1⟩ := hr2.at q
          rw [hn] at ha'; cases ha'
          cases q2 : keyD d2 with
          | none => rw [q2] at p2; exact p2.elim
          | some k =>
            rw [q2] at p2
            simp only [Option.bind_some] at p2
            cases q3 : getK kvs k with
            | none => rw [q3] at p2; exact p2.elim
            | some z =>
              rw [q3] at p2
              obtain ⟨w, h1, h2⟩ := getK_ok k1 q3
              refine ⟨a, w, rfl, ?_, p2 _ _ _ (Ext.refl _ _) hr2 h2⟩
              rw [keyD_ok rb2 q2, ← h1]
              exact DGet.k g1
        · exact p2.elim
      | _ => exact p2.elim⟩⟩
/-- a written dict with text keys -/
def KTab (K : PySem.W.Frag) (w : World) (mg : Str → Option Value) (x : Str) (tab : List (Str × D)) : Prop := ∃ p, mg x = some (.ref p) ∧ ∀ z d, tab.lookup z = some d → ∃ v, KDct K w p z v ∧ ∀ H mu, Rp K H mu d v
theorem se_kget {x : Str} {tab : List (Str × D)} (hk : KTab X.K X.w X.mg x tab) (hb : SE X cl W i mb) (hg : Gl X x := by rfl) (hd : (x == ("__debug__" : Str)) = false := by decide) (hs : PlainIx i := by exact fun _ _ => rfl) : SE X cl W (.Subscript (.Name x p) i pos) (eKGet tab mb) := by
  obtain ⟨q, hm, ht⟩ := hk
  refine PE.imp (pe_ix ix_kdict (pe_glob (v := .ref q) hg hm rfl hd) hb hs) fun sg H Q ⟨mu, env, h, rel, p⟩ => ⟨mu, env, h, rel, (Post.bind p).mono fun b H1 ⟨mu1, d, h1, e, hr, rb, p1⟩ => ?_⟩
  cases rb with
  | str z =>
    simp only at p1
    cases q2 : tab.lookup z with
    | none => rw [q2] at p1; exact p1.elim
    | some d =>
      rw [q2] at p1
      obtain ⟨v, h1, h2⟩ := ht z d q2
      exact ⟨q, z, v, rfl, rfl, h1, p1 _ _ _ (Ext.refl _ _) hr (h2 _ _)⟩
  | _ => exact p1.elim
theorem setK_ok {K : PySem.W.Frag} {H : Hp} {mu : List Addr} {κ : Type} [DecidableEq κ] {k : κ} {d : D} {v : V} (r : Rp K H mu d v) {kvs : List (κ × D)} {ks : List (κ × V)} (h : RpP K H mu kvs ks) : RpP K H mu (setK kvs k d) (putK ks k v) := by
  have hany : ∀ {kvs : List (κ × D)} {ks : List (κ × V)}, RpP K H mu kvs ks → (kvs.any fun kv => decide (kv.1 = k)) = (ks.any fun kv => decide (kv.1 = k)) := by
    intro kvs ks h
    induction h with
    | nil => rfl
    | cons a b ih =>
      obtain ⟨e, _⟩ := a
      rw [List.any_cons, List.any_cons, ih, e]
  have hmap : ∀ {kvs : List (κ × D)} {ks : List (κ × V)}, RpP K H mu kvs ks → RpP K H mu (kvs.map (fun kv => if kv.1 = k then (kv.1, d) else kv)) (ks.map (fun kv => if kv.1 = k then (kv.1, v) else kv)) := by
    intro kvs ks h
    induction h with
    | nil => exact .nil
    | @cons p q _ _ a b ih =>
      obtain ⟨e, a⟩ := a
      rw [List.map_cons, List.map_cons]
      refine .cons ?_ ih
      rw [e]
      split
      · exact ⟨rfl, r⟩
      · exact ⟨e, a⟩
  have happ : ∀ {kvs : List (κ × D)} {ks : List (κ × V)}, RpP K H mu kvs ks → RpP K H mu (kvs ++ [(k, d)]) (ks ++ [(k, v)]) := by
    intro kvs ks h
    induction h with
    | nil => exact .cons ⟨rfl, r⟩ .nil
    | cons a b ih => exact .cons a ih
  unfold setK putK
  rw [hany h]
  split
  · exact hmap h
  · exact happ h
theorem mergeK_ok {K : PySem.W.Frag} {H : Hp} {mu : List Addr} {more : List (Key × D)} {mv : List (Key × V)} (hm : RpP K H mu more mv) : ∀ {kvs : List (Key × D)} {ks : List (Key × V)}, RpP K H mu kvs ks →
    RpP K H mu (more.foldl (fun acc kv => setK acc kv.1 kv.2) kvs) (mv.foldl (fun acc kv => putK acc kv.1 kv.2) ks) := by
  induction hm with
  | nil => exact fun h => h
  | @cons p q _ _ a b ih =>
    intro kvs ks h
    rw [List.foldl_cons, List.foldl_cons]
    obtain ⟨e, a⟩ := a
    rw [← e]
    exact ih (setK_ok a h)
/-- pairs of a display -/
inductive SPs (X : Cx) (cl : Nat → Addr) (W : WX) (pos : Pos) : List (Option Expr) → List Expr → List (ME × ME) → Prop
  | nil : SPs X cl W pos [] [] []
  | cons {k v : Expr} {ks : List (Option Expr)} {vs : List Expr} {mk mv : ME} {r : List (ME × ME)} (hk : SE X cl W k mk) (hv : SE X cl W v mv) (hr : SPs X cl W pos ks vs r) : SPs X cl W pos (some k :: ks) (v :: vs) ((mk, mv) :: r)
theorem SPs.pps {ks : List (Option Expr)} {vs : List Expr} {r : List (ME × ME)} (h : SPs X cl W pos ks vs r) : PPs X pos ks vs (r.map fun p => (tE X.K cl W p.1, tE X.K cl W p.2)) := by
  induction h with
  | nil => exact pps_nil
  | cons hk hv _ ih => exact pps_cons hk hv ih
theorem tPairs_ok : ∀ (r : List (ME × ME)) (sg : Sg) (H : Hp) (mu : List Addr) (env : En) (h : Hs) (Q : List (V × V) → Hp → Prop), Rel X.K cl H mu h env sg →
    Post (fun H mu (a : List (D × D)) (b : List (V × V)) => Paired (fun (p : D × D) (q : V × V) => Rp X.K H mu p.1 q.1 ∧ Rp X.K H mu p.2 q.2) a b) X.K cl W sg H mu (ePairs r env h) Q → tPairs (r.map fun p => (tE X.K cl W p.1, tE X.K cl W p.2)) sg H Q
  | [], sg, H, mu, env, h, Q, rel, p => p _ _ _ (Ext.refl _ _) rel.hr .nil
  | (a, b) :: r, sg, H, mu, env, h, Q, rel, p => by
    refine ⟨mu, env, h, rel, (Post.bind p).mono fun b H1 ⟨mu1, d, h1, e, hr, rb, p1⟩ => ⟨mu1, env, h1, ⟨hr, rel.er.mono e⟩, (Post.bind p1).mono fun b2 H2 ⟨mu2, d2, h2, e2, hr2, rb2, p2⟩ => ?_⟩⟩
    refine tPairs_ok r sg H2 mu2 env h2 _ ⟨hr2, (rel.er.mono e).mono e2⟩ ((Post.bind p2).mono fun b3 H3 ⟨mu3, d3, h3, e3, hr3, rb3, p3⟩ => ?_)
    exact p3 _ _ _ (Ext.refl _ _) hr3 (.cons ⟨(rb.mono e2).mono e3, rb2.mono e3⟩ rb3)
theorem keysOf_ok {K : PySem.W.Frag} {H : Hp} {mu : List Addr} : ∀ {rs : List (D × D)} {qs : List (V × V)} {kvs : List (Key × D)}, Paired (fun (p : D × D) (q : V × V) => Rp K H mu p.1 q.1 ∧ Rp K H mu p.2 q.2) rs qs → keysOf rs = some kvs →
    ∃ ks : List (Key × V), qs = ks.map (fun kv => (kV kv.1, kv.2)) ∧ RpP K H mu kvs ks
  | _, _, _, .nil, h => by cases h; exact ⟨[], rfl, .nil⟩
  | (k, v) :: r, (q, w) :: r', kvs, .cons ⟨a1, a2⟩ b, h => by
    unfold keysOf at h
    cases q1 : keyD k with
    | none => rw [q1] at h; cases h
    | some z =>
      rw [q1] at h
      simp only [Option.bind_some] at h
      cases q2 : keysOf r with
      | none => rw [q2] at h; cases h
      | some zs =>
        rw [q2] at h
        cases h
        obtain ⟨ks, e1, e2⟩ := keysOf_ok b q2
        subst e1
        refine ⟨(z, w) :: ks, ?_, .cons ⟨rfl, a2⟩ e2⟩
        rw [List.map_cons]
        have : q = kV z := keyD_ok a1 q1
        rw [← this]
theorem se_dict {keys : List (Option Expr)} {values : List Expr} {r : List (ME × ME)} (h : SPs X cl W pos keys values r) (hall : keys.all (·.isSome) = true := by rfl) (hl : keys.length = values.length := by rfl) (h0 : keys ≠ [] := by exact fun z => by cases z)
    (h15 : keys.length ≤ 15 := by decide) : SE X cl W (.Dict keys values pos) (eDict r) :=
  PE.imp (pe_disp h.pps hall hl h0 h15) fun sg H Q ⟨mu, env, h, rel, p⟩ q hq => by
    have nq : q ∉ mu := rel.hr.fresh hq
    have E0 : Ext H mu (upd H q (.dK [])) mu := Ext.tupled hq
    refine tPairs_ok r sg _ mu env h _ ⟨rel.hr.tupled hq, rel.er.mono E0⟩ ?_
    unfold eDict at p
    cases q0 : ePairs r env h with
    | ok a h' =>
      rw [q0] at p
      intro b H' mu' e' hr rb
      have nq' : q ∉ mu' := fun hm => by
        have := e'.new q hm nq
        rw [upd_same] at this; cases this
      have hq' : H' q = some (.dK []) := e'.frame q _ upd_same nq
      simp only [bind_ok] at p
      cases q1 : keysOf a with
      | none => rw [q1] at p; exact p.elim
      | some kvs =>
        rw [q1] at p
        simp only at p
        split at p
        · rename_i hz
          obtain ⟨ks, e1, e2⟩ := keysOf_ok rb q1
          refine ⟨hq', ks, e1, by rw [← Paired.length e2]; exact hz, ?_⟩
          have M : Mo H' mu' (upd H' q (.dK (mergeK [] ks))) (mu' ++ [q]) := ⟨fun a xs e => by
            have : a ≠ q := fun z => by subst z; rw [hq'] at e; cases e
            rw [upd_ne this]; exact e, fun a x w e => by
            have : a ≠ q := fun z => by subst z; rw [hq'] at e; cases e
            rw [upd_ne this]; exact e, List.prefix_append _ _⟩
          refine p _ _ _ ((E0.trans e').joined hq) (hr.joined nq' (fun _ z => by rw [hq'] at z; cases z) (fun _ _ z => by rw [hq'] at z; cases z) ⟨_, upd_same, (mergeK_ok e2 .nil).mo M⟩) (.ref ?_)
          rw [← hr.len]; simp
        · exact p.elim
    | exc x h' =>
      rw [q0] at p
      exact fun c dd H' mu' e' hr hx => p c dd H' mu' (E0.trans e') hr hx
    | bad => rw [q0] at p; exact p
end
end DS

set_option Elab.async false
set_option linter.all false
set_option maxRecDepth 100000
set_option maxHeartbeats 4000000
/-! DSF: statements, targets. -/
namespace DS
open PySem PySem.Spec PyProof.Rows L2

inductive RS where
  | nx (e : En) (h : Hs)
  | ret (d : D) (h : Hs)
  | bk (e : En) (h : Hs)
  | ct (e : En) (h : Hs)
  | exc (x : Ex) (e : En) (h : Hs)
  | bad
abbrev MS := En → Hs → RS
/-- a target -/
abbrev MG := D → En → Hs → R En
abbrev MGs := List D → En → Hs → R En

def ofR {α : Type} (env : En) (r : R α) (k : α → Hs → RS) : RS :=
  match r with
  | .ok a h => k a h
  | .exc x h => .exc x env h
  | .bad => .bad
@[simp] theorem ofR_ok {α : Type} (env : En) (a : α) (h : Hs) (k : α → Hs → RS) : ofR env (.ok a h) k = k a h := rfl
@[simp] theorem ofR_exc {α : Type} (env : En) (x : Ex) (h : Hs) (k : α → Hs → RS) : ofR env (.exc x h : R α) k = .exc x env h := rfl
@[simp] theorem ofR_bad {α : Type} (env : En) (k : α → Hs → RS) : ofR env (.bad : R α) k = .bad := rfl
def sExpr (a : ME) : MS := fun env h => ofR env (a env h) fun _ h1 => .nx env h1
def sRet (a : ME) : MS := fun env h => ofR env (a env h) fun d h1 => .ret d h1
def sRetN : MS := fun _ h => .ret .non h
def sPass : MS := fun env h => .nx env h
def sBreak : MS := fun env h => .bk env h
def sCont : MS := fun env h => .ct env h
def sBad : MS := fun _ _ => .bad
def sSet (i : Nat) (a : ME) : MS := fun env h => ofR env (a env h) fun d h1 => .nx (env.set i (some d)) h1
def sAsg (g : MG) (a : ME) : MS := fun env h => ofR env (a env h) fun d h1 => match g d env h1 with
  | .ok e h2 => .nx e h2
  | _ => .bad
def sIf (t : MT) (a b : MS) : MS := fun env h => ofR env (t env h) fun c h1 => if c = true then a env h1 else b env h1
def sSeq (a b : MS) : MS := fun env h => match a env h with
  | .nx e h1 => b e h1
  | r => r
def sPut (g : OS) (v o i : ME) : MS := fun env h => ofR env (v env h) fun x h1 => ofR env (o env h1) fun y h2 => ofR env (i env h2) fun z h3 => match g y z x h3 with
  | some h4 => .nx env h4
  | none => .bad
def sPar2 (i j : Nat) (a : MA) : MS := fun env h => ofR env (a env h) fun ds h1 => match ds with
  | [x, y] => .nx ((env.set i (some x)).set j (some y)) h1
  | _ => .bad
def sPar3 (i j l : Nat) (a : MA) : MS := fun env h => ofR env (a env h) fun ds h1 => match ds with
  | [x, y, z] => .nx (((env.set i (some x)).set j (some y)).set l (some z)) h1
  | _ => .bad
def vAddI : O2
  | .int i, .int j, h => some (.int (i + j), h)
  | _, _, _ => none
def sAug (i : Nat) (g : O2) (a : ME) : MS := fun env h => match env[i]? with
  | some (some x) => ofR env (a env h) fun y h1 => match g x y h1 with
    | some p => .nx (env.set i (some p.1)) p.2
    | none => .bad
  | _ => .bad
def gName (i : Nat) : MG := fun d env h => .ok (env.set i (some d)) h
def gNil : MGs := fun ds env h => match ds with | [] => .ok env h | _ => .bad
def gCons (a : MG) (b : MGs) : MGs := fun ds env h => match ds with | d :: r => (a d env h).bind fun e h1 => b r e h1 | [] => .bad
def gTup (n : Nat) (b : MGs) : MG := fun d env h => match d with | .tup xs => if xs.length = n then b xs env h else .bad | _ => .bad
def gPut (g : OS) (o i : ME) : MG := fun d env h => (o env h).bind fun y h2 => (i env h2).bind fun z h3 => match g y z d h3 with
  | some h4 => .ok env h4
  | none => .bad

section
variable (K : PySem.W.Frag) (cl : Nat → Addr) (W : WX)
def PostS (D : Ends) (H : Hp) (mu : List Addr) : RS → Prop
  | .nx e h => ∀ sg H' mu', Ext H mu H' mu' → HR K H' mu' cl h → ER K H' mu' e sg → D.nx sg H'
  | .ret d h => ∀ v H' mu', Ext H mu H' mu' → HR K H' mu' cl h → Rp K H' mu' d v → D.rt v H'
  | .bk e h => ∀ sg H' mu', Ext H mu H' mu' → HR K H' mu' cl h → ER K H' mu' e sg → D.bk sg H'
  | .ct e h => ∀ sg H' mu', Ext H mu H' mu' → HR K H' mu' cl h → ER K H' mu' e sg → D.ct sg H'
  | .exc x e h => ∀ c dd sg H' mu', Ext H mu H' mu' → HR K H' mu' cl h → ER K H' mu' e sg → XR K cl H' mu' x c dd → W c dd sg H'
  | .bad => False
def tS (m : MS) : TS := fun D sg H => ∃ mu env h, Rel K cl H mu h env sg ∧ PostS K cl W D H mu (m env h)
def PostG (H : Hp) (mu : List Addr) (r : R En) (Q : Sg → Hp → Prop) : Prop :=
  match r with
  | .ok e h => ∀ sg' H' mu', Ext H mu H' mu' → HR K H' mu' cl h → ER K H' mu' e sg' → Q sg' H'
  | _ => False
def tG (g : MG) : L2.TG := fun v sg H Q => ∃ mu env h d, Rel K cl H mu h env sg ∧ Rp K H mu d v ∧ PostG K cl H mu (g d env h) Q
def tGs (g : MGs) : L2.TGs := fun vs sg H Q => ∃ mu env h ds, Rel K cl H mu h env sg ∧ RpA K H mu ds vs ∧ PostG K cl H mu (g ds env h) Q
end
abbrev SS (X : Cx) (cl : Nat → Addr) (W : WX) (st : Stmt) (m : MS) : Prop := PS X st (tS X.K cl W m)
abbrev SB (X : Cx) (cl : Nat → Addr) (W : WX) (st : List Stmt) (m : MS) : Prop := PSs X st (tS X.K cl W m)
abbrev SG (X : Cx) (cl : Nat → Addr) (e : Expr) (g : MG) : Prop := PG X e (tG X.K cl g)
abbrev SGs (X : Cx) (cl : Nat → Addr) (e : List Expr) (g : MGs) : Prop := PGs X e (tGs X.K cl g)
theorem PS.imp {X : Cx} {st : Stmt} {t t' : TS} (h : PS X st t) (hi : ∀ D sg H, t' D sg H → t D sg H) : PS X st t' := ⟨fun pins s σ H D I q => h.run pins s σ H D I (hi _ _ _ q)⟩
theorem PSs.imp {X : Cx} {st : List Stmt} {t t' : TS} (h : PSs X st t) (hi : ∀ D sg H, t' D sg H → t D sg H) : PSs X st t' := ⟨fun pins s σ H D I q => h.run pins s σ H D I (hi _ _ _ q)⟩
theorem PG.imp {X : Cx} {e : Expr} {t t' : L2.TG} (h : PG X e t) (hi : ∀ v sg H Q, t' v sg H Q → t v sg H Q) : PG X e t' := ⟨fun pins s σ H v u Q I r q => h.run pins s σ H v u Q I r (hi _ _ _ _ q)⟩
theorem PGs.imp {X : Cx} {e : List Expr} {t t' : L2.TGs} (h : PGs X e t) (hi : ∀ v sg H Q, t' v sg H Q → t v sg H Q) : PGs X e t' := ⟨fun pins s σ H v u Q I r q => h.run pins s σ H v u Q I r (hi _ _ _ _ q)⟩

section
variable {K : PySem.W.Frag} {cl : Nat → Addr} {W : WX} {D : Ends} {H H1 : Hp} {mu mu1 : List Addr} {r : RS} {sg : Sg} {env : En}
theorem PostS.ext (e : Ext H mu H1 mu1) (p : PostS K cl W D H mu r) : PostS K cl W D H1 mu1 r := by
  cases r with
  | nx e' h => exact fun sg H' mu' e' hr er => p sg H' mu' (e.trans e') hr er
  | ret d h => exact fun v H' mu' e' hr er => p v H' mu' (e.trans e') hr er
  | bk e' h => exact fun sg H' mu' e' hr er => p sg H' mu' (e.trans e') hr er
  | ct e' h => exact fun sg H' mu' e' hr er => p sg H' mu' (e.trans e') hr er
  | exc x e' h => exact fun c dd sg H' mu' e' hr er hx => p c dd sg H' mu' (e.trans e') hr er hx
  | bad => exact p
/-- the head of a statement: a reading, then the rest -/
theorem PostS.of {α β : Type} {rl : Hp → List Addr → α → β → Prop} {a : R α} {k : α → Hs → RS} (er : ER K H mu env sg) (p : PostS K cl W D H mu (ofR env a k)) :
    Post rl K cl W sg H mu a (fun b H1 => ∃ mu1 d h1, Ext H mu H1 mu1 ∧ HR K H1 mu1 cl h1 ∧ rl H1 mu1 d b ∧ PostS K cl W D H1 mu1 (k d h1)) := by
  cases a with
  | ok d h => exact fun b H' mu' e hr rb => ⟨mu', d, h, e, hr, rb, p.ext e⟩
  | exc x h => exact fun c dd H' mu' e hr hx => p c dd sg H' mu' e hr (er.mono e) hx
  | bad => exact p
theorem PostG.ext {r : R En} {Q : Sg → Hp → Prop} (e : Ext H mu H1 mu1) (p : PostG K cl H mu r Q) : PostG K cl H1 mu1 r Q := by
  cases r with
  | ok e' h => exact fun sg H' mu' e' hr er => p sg H' mu' (e.trans e') hr er
  | exc x h => exact p
  | bad => exact p
theorem PostG.of {α β : Type} {rl : Hp → List Addr → α → β → Prop} {a : R α} {k : α → Hs → R En} {Q : Sg → Hp → Prop} (p : PostG K cl H mu (a.bind k) Q) :
    Post rl K cl W sg H mu a (fun b H1 => ∃ mu1 d h1, Ext H mu H1 mu1 ∧ HR K H1 mu1 cl h1 ∧ rl H1 mu1 d b ∧ PostG K cl H1 mu1 (k d h1) Q) := by
  cases a with
  | ok d h => exact fun b H' mu' e hr rb => ⟨mu', d, h, e, hr, rb, p.ext e⟩
  | exc x h => exact p.elim
  | bad => exact p
theorem ER.set {i : Nat} {d : DS.D} {v : V} (er : ER K H mu env sg) (r : Rp K H mu d v) : ER K H mu (env.set i (some d)) (sg.set i (some v)) := by
  refine ⟨by simpa using er.1, fun j d' e => ?_⟩
  by_cases hj : i = j
  · subst hj
    have hlt : i < env.length := by have := (List.getElem?_eq_some_iff.mp e).1; simpa using this
    rw [List.getElem?_set_self hlt] at e
    cases e
    exact ⟨v, by rw [List.getElem?_set_self (by rw [← er.1]; exact hlt)], r⟩
  · rw [List.getElem?_set_ne hj] at e ⊢
    exact er.2 j d' e
end

section
variable {X : Cx} {cl : Nat → Addr} {W : WX} {a b c e o i : Expr} {es : List Expr} {ma mb mc mo mi : ME} {mt : MT} {ms : MA} {s1 s2 : MS} {pos p p2 p3 : Pos} {st : Stmt} {rest : List Stmt}
theorem ss_bad : SS X cl W st sBad := PS.imp ps_never fun D sg H ⟨mu, env, h, rel, p⟩ => p
theorem sb_nil : SB X cl W [] sPass := PSs.imp pss_nil fun D sg H ⟨mu, env, h, rel, p⟩ => p _ _ _ (Ext.refl _ _) rel.hr rel.er
theorem ss_pass : SS X cl W (.Pass pos) sPass := PS.imp ps_pass fun D sg H ⟨mu, env, h, rel, p⟩ => p _ _ _ (Ext.refl _ _) rel.hr rel.er
theorem ss_break : SS X cl W (.Break pos) sBreak := PS.imp ps_break fun D sg H ⟨mu, env, h, rel, p⟩ => p _ _ _ (Ext.refl _ _) rel.hr rel.er
theorem ss_cont : SS X cl W (.Continue pos) sCont := PS.imp ps_continue fun D sg H ⟨mu, env, h, rel, p⟩ => p _ _ _ (Ext.refl _ _) rel.hr rel.er
theorem sb_one (h : SS X cl W st s1) : SB X cl W [st] s1 := pss_one h
theorem sb_cons (h1 : SS X cl W st s1) (h2 : SB X cl W rest s2) : SB X cl W (st :: rest) (sSeq s1 s2) :=
  PSs.imp (pss_cons h1 h2) fun D sg H ⟨mu, env, h, rel, p⟩ => ⟨mu, env, h, rel, by
    unfold sSeq at p
    cases q : s1 env h with
    | nx e' h' => rw [q] at p; exact fun sg' H' mu' e hr er => ⟨mu', e', h', ⟨hr, er⟩, p.ext e⟩
    | ret d h' => rw [q] at p; exact p
    | bk e' h' => rw [q] at p; exact p
    | ct e' h' => rw [q] at p; exact p
    | exc x e' h' => rw [q] at p; exact p
    | bad => rw [q] at p; exact p⟩
theorem ss_expr (he : SE X cl W e ma) (hs : swapsWith e none pos.line X.env = pure false := by rfl) : SS X cl W (.Expr e pos) (sExpr ma) :=
  PS.imp (ps_expr he hs) fun D sg H ⟨mu, env, h, rel, p⟩ => ⟨mu, env, h, rel, (PostS.of rel.er p).mono fun b H1 ⟨mu1, d, h1, e, hr, rb, p1⟩ => p1 _ _ _ (Ext.refl _ _) hr (rel.er.mono e)⟩
theorem ss_ret (he : SE X cl W e ma) : SS X cl W (.Return (some e) pos) (sRet ma) :=
  PS.imp (ps_ret he) fun D sg H ⟨mu, env, h, rel, p⟩ => ⟨mu, env, h, rel, (PostS.of rel.er p).mono fun b H1 ⟨mu1, d, h1, e, hr, rb, p1⟩ => p1 _ _ _ (Ext.refl _ _) hr rb⟩
theorem ss_retN : SS X cl W (.Return none pos) sRetN := PS.imp ps_retN fun D sg H ⟨mu, env, h, rel, p⟩ => p _ _ _ (Ext.refl _ _) rel.hr .non
theorem ss_if {t1 t2 : List Stmt} (hc : ST X cl W c mt) (ha : SB X cl W t1 s1) (hb : SB X cl W t2 s2) : SS X cl W (.If c t1 t2 pos) (sIf mt s1 s2) :=
  PS.imp (ps_if hc ha hb) fun D sg H ⟨mu, env, h, rel, p⟩ => ⟨mu, env, h, rel, (PostS.of (rl := rlB) rel.er p).mono fun b H1 ⟨mu1, d, h1, e, hr, rb, p1⟩ => by
    cases rb
    cases b with
    | true => exact ⟨mu1, env, h1, ⟨hr, rel.er.mono e⟩, p1⟩
    | false => exact ⟨mu1, env, h1, ⟨hr, rel.er.mono e⟩, p1⟩⟩
theorem ss_set {k : Nat} {x : Str} (hN : X.N.Nodup) (hi : X.N[k]? = some x) (hx : Loc X.env.scope x) (he : SE X cl W e ma) (hs : swapsWith e (some (.Name x p2)) pos.line X.env = pure false := by rfl) (hf : X.fn x = true ∨ X.env.scope.names.lookup x = some .local := by first | exact .inl rfl | exact .inr rfl | assumption) :
    SS X cl W (.Assign [.Name x p2] e pos) (sSet k ma) :=
  PS.imp (ps_set hN hi hx he hs hf) fun D sg H ⟨mu, env, h, rel, p⟩ => ⟨mu, env, h, rel, (PostS.of rel.er p).mono fun b H1 ⟨mu1, d, h1, e, hr, rb, p1⟩ => p1 _ _ _ (Ext.refl _ _) hr ((rel.er.mono e).set rb)⟩
/-! ### targets -/
theorem sg_name {k : Nat} {x : Str} (hN : X.N.Nodup) (hi : X.N[k]? = some x) (hx : Loc X.env.scope x) (hf : X.fn x = true ∨ X.env.scope.names.lookup x = some .local := by first | exact .inl rfl | exact .inr rfl | assumption) : SG X cl (.Name x pos) (gName k) :=
  PG.imp (pg_name hN hi hx hf) fun v sg H Q ⟨mu, env, h, d, rel, rd, p⟩ => p _ _ _ (Ext.refl _ _) rel.hr (rel.er.set rd)
theorem sgs_nil : SGs X cl [] gNil := PGs.imp pgs_nil fun v sg H Q ⟨mu, env, h, d, rel, rd, p⟩ => by
  cases rd with
  | nil => exact ⟨rfl, p _ _ _ (Ext.refl _ _) rel.hr rel.er⟩
  | cons _ _ => exact p.elim
theorem sgs_cons {g : MG} {gs : MGs} (h1 : SG X cl e g) (h2 : SGs X cl es gs)
    (hs : (assignEach (e :: es) X.env).map (·.2) = assign e X.env :: (assignEach es X.env).map (·.2) := by rfl) : SGs X cl (e :: es) (gCons g gs) :=
  PGs.imp (pgs_cons h1 h2 hs) fun vs sg H Q ⟨mu, env, h, ds, rel, rd, p⟩ => by
    cases rd with
    | nil => exact p.elim
    | @cons d v ds vs rd rest =>
      refine ⟨v, vs, rfl, mu, env, h, d, rel, rd, ?_⟩
      unfold gCons at p
      simp only at p
      cases q : g d env h with
      | ok e' h' => rw [q] at p; exact fun sg' H' mu' e hr er => ⟨mu', e', h', ds, ⟨hr, er⟩, rest.mono e, p.ext e⟩
      | exc x h' => rw [q] at p; exact p.elim
      | bad => rw [q] at p; exact p.elim
theorem sg_tup {gs : MGs} {k n : Nat} (hc : X.calm = true) (h : SGs X cl es gs) (hn : (assignEach es X.env).length = n := by rfl) (hst : (assignEach es X.env).findIdx? (·.1) = none := by rfl) : SG X cl (.Tuple es k pos) (gTup n gs) :=
  PG.imp (pg_tup hc h hn hst) fun v sg H Q ⟨mu, env, h, d, rel, rd, p⟩ => by
    cases rd with
    | @tup a xs ds sa ra =>
      unfold gTup at p
      simp only at p
      split at p
      · rename_i hl
        exact ⟨a, xs, rfl, sa, by rw [← ra.length]; exact hl, mu, env, h, ds, rel, ra, p⟩
      · exact p.elim
    | _ => exact p.elim
theorem ss_asg {tg : Expr} {g : MG} (he : SE X cl W e ma) (hg : SG X cl tg g) (hs : swapsWithSole [tg] e pos.line X.env = pure false := by rfl) (hw : swappedStores [tg] e X.env = pure none := by rfl)
    (h1 : (assignEach [tg] X.env).map (·.2) = [assign tg X.env] := by rfl) : SS X cl W (.Assign [tg] e pos) (sAsg g ma) :=
  PS.imp (ps_asg he hg hs hw h1) fun D sg H ⟨mu, env, h, rel, p⟩ => ⟨mu, env, h, rel, (PostS.of rel.er p).mono fun b H1 ⟨mu1, d, h1, e, hr, rb, p1⟩ => ⟨mu1, env, h1, d, ⟨hr, rel.er.mono e⟩, rb, by
    cases q : g d env h1 with
    | ok e' h' => rw [q] at p1; exact p1
    | exc x h' => rw [q] at p1; exact p1
    | bad => rw [q] at p1; exact p1⟩⟩
/-- o[i] = v of a list -/
theorem vLPut_ok {K : PySem.W.Frag} {H : Hp} {mu : List Addr} {h h' : Hs} {d z x : DS.D} {o i v : V} {Q : Hp → Prop} (hr : HR K H mu cl h) (rd : Rp K H mu d o) (rz : Rp K H mu z i) (rx : Rp K H mu x v) (q : vLPut d z x h = some h')
    (hq : ∀ H', Ext H mu H' mu → HR K H' mu cl h' → Q H') : rSetL o i v H Q := by
  cases rd with
  | @ref n a hn =>
    cases rz with
    | int k =>
      unfold vLPut at q
      simp only at q
      split at q
      · rename_i xs e1
        obtain ⟨a', ha', ys, g1, k1⟩ := hr.at e1
        rw [hn] at ha'; cases ha'
        cases q2 : ixN xs.length k with
        | none => rw [q2] at q; cases q
        | some j =>
          rw [q2] at q
          cases q
          refine ⟨a, ys, k, j, rfl, rfl, g1, by rw [← k1.length]; exact q2, ?_⟩
          have E : Ext H mu (upd H a (.lst (ys.set j v))) mu := Ext.written hn g1 (by intro _ z; cases z) (by intro _ _ z; cases z)
          exact hq _ E (hr.written hn g1 (by intro _ z; cases z) (by intro _ _ z; cases z) ⟨_, upd_same, (RpA.set rx j k1).mono E⟩)
      · cases q
    | _ => cases q
  | _ => cases q
theorem sg_lput (ho : SE X cl (fun _ _ _ _ => False) o mo) (hi : SE X cl (fun _ _ _ _ => False) i mi)
    (ha : ∀ v, assign (.Subscript o i pos) X.env v = (do
      let ov ← holding [v] (eval o X.env)
      let iv ← holding [v, ov] (eval i X.env)
      standAt pos
      holding [v, ov, iv] (setItem ov iv v)
      release [v, ov, iv] []) := by intro _; rfl) : SG X cl (.Subscript o i pos) (gPut vLPut mo mi) :=
  PG.imp (pg_sub ho hi set_list ha) fun v sg H Q ⟨mu, env, h, d, rel, rd, p⟩ => by
    unfold gPut at p
    refine ⟨mu, env, h, rel, (PostG.of p).mono fun b H1 ⟨mu1, d1, h1, e, hr, rb, p1⟩ => ⟨mu1, env, h1, ⟨hr, rel.er.mono e⟩, (PostG.of p1).mono fun b2 H2 ⟨mu2, d2, h2, e2, hr2, rb2, p2⟩ => ?_⟩⟩
    cases q : vLPut d1 d2 d h2 with
    | none => rw [q] at p2; exact p2.elim
    | some h' =>
      rw [q] at p2
      exact vLPut_ok hr2 (rb.mono e2) rb2 ((rd.mono e).mono e2) q fun H' E hr' => p2 _ _ _ E hr' (((rel.er.mono e).mono e2).mono E)
theorem ss_lput (hv : SE X cl W e ma) (ho : SE X cl W o mo) (hi : SE X cl W i mi) (hs : swapsWithSole [.Subscript o i p2] e pos.line X.env = pure false := by rfl) (hw : swappedStores [.Subscript o i p2] e X.env = pure none := by rfl)
    (h1 : (assignEach [.Subscript o i p2] X.env).map (·.2) = [assign (.Subscript o i p2) X.env] := by rfl)
    (ha : ∀ v, assign (.Subscript o i p2) X.env v = (do
      let ov ← holding [v] (eval o X.env)
      let iv ← holding [v, ov] (eval i X.env)
      standAt p2
      holding [v, ov, iv] (setItem ov iv v)
      release [v, ov, iv] []) := by intro _; rfl) : SS X cl W (.Assign [.Subscript o i p2] e pos) (sPut vLPut ma mo mi) :=
  PS.imp (ps_asg hv (pg_sub ho hi set_list ha) hs hw h1) fun D sg H ⟨mu, env, h, rel, p⟩ => by
    unfold sPut at p
    refine ⟨mu, env, h, rel, (PostS.of rel.er p).mono fun b H1 ⟨mu1, d1, h1, e, hr, rb, p1⟩ => ⟨mu1, env, h1, ⟨hr, rel.er.mono e⟩, (PostS.of (rel.er.mono e) p1).mono fun b2 H2 ⟨mu2, d2, h2, e2, hr2, rb2, p2⟩ => ⟨mu2, env, h2, ⟨hr2, (rel.er.mono e).mono e2⟩,
      (PostS.of ((rel.er.mono e).mono e2) p2).mono fun b3 H3 ⟨mu3, d3, h3, e3, hr3, rb3, p3⟩ => ?_⟩⟩⟩
    cases q : vLPut d2 d3 d1 h3 with
    | none => rw [q] at p3; exact p3.elim
    | some h' =>
      rw [q] at p3
      exact vLPut_ok hr3 (rb2.mono e3) rb3 ((rb.mono e2).mono e3) q fun H' E hr' => p3 _ _ _ E hr' ((((rel.er.mono e).mono e2).mono e3).mono E)
theorem ss_dput (hu : X.A.units + 1 < cLine) (hv : SE X cl W e ma) (ho : SE X cl W o mo) (hi : SE X cl W i mi) (hs : swapsWith e (some (.Subscript o i p2)) pos.line X.env = pure false := by rfl) : SS X cl W (.Assign [.Subscript o i p2] e pos) (sPut vDPut ma mo mi) :=
  PS.imp (ps_dput hu ho hi hv hs) fun D sg H ⟨mu, env, h, rel, p⟩ => by
    unfold sPut at p
    refine ⟨mu, env, h, rel, (PostS.of rel.er p).mono fun b H1 ⟨mu1, d1, h1, e, hr, rb, p1⟩ => ⟨mu1, env, h1, ⟨hr, rel.er.mono e⟩, (PostS.of (rel.er.mono e) p1).mono fun b2 H2 ⟨mu2, d2, h2, e2, hr2, rb2, p2⟩ => ⟨mu2, env, h2, ⟨hr2, (rel.er.mono e).mono e2⟩,
      (PostS.of ((rel.er.mono e).mono e2) p2).mono fun b3 H3 ⟨mu3, d3, h3, e3, hr3, rb3, p3⟩ => ?_⟩⟩⟩
    cases q : vDPut d2 d3 d1 h3 with
    | none => rw [q] at p3; exact p3.elim
    | some h' =>
      rw [q] at p3
      have rb2 := rb2.mono e3
      have rb := (rb.mono e2).mono e3
      have er := ((rel.er.mono e).mono e2).mono e3
      cases rb2 with
      | @ref n a hn =>
        unfold vDPut at q
        simp only at q
        split at q
        · rename_i kvs k q1 q2
          split at q
          · rename_i hz
            cases q
            obtain ⟨a', ha', ks, g1, k1⟩ := hr3.at q1
            rw [hn] at ha'; cases ha'
            refine ⟨a, _, rfl, by rw [keyD_ok rb3 q2]; exact DPut.k (k := k) g1 (by rw [← Paired.length k1]; exact hz), ?_⟩
            have E : Ext H3 mu3 (upd H3 a (.dK (putK ks k b))) mu3 := Ext.written hn g1 (by intro _ z; cases z) (by intro _ _ z; cases z)
            exact p3 _ _ _ E (hr3.written hn g1 (by intro _ z; cases z) (by intro _ _ z; cases z) ⟨_, upd_same, (setK_ok rb k1).mono E⟩) (er.mono E)
          · cases q
        · cases q
      | _ => cases q
theorem ss_par2 {k l : Nat} {x y : Str} {px py pt pt2 : Pos} {kt k2} (hc : X.calm = true) (hN : X.N.Nodup) (hi : X.N[k]? = some x) (hj : X.N[l]? = some y) (hij : k ≠ l)
    (hx : X.env.scope.names.lookup x = some .local) (hy : X.env.scope.names.lookup y = some .local) (ha : SA X cl W [a, b] ms)
    (hw : swappedStores [.Tuple [.Name x px, .Name y py] kt pt] (.Tuple [a, b] k2 pt2) X.env = pure (some [x, y]) := by rfl)
    (hs : swapsWithSole [.Tuple [.Name x px, .Name y py] kt pt] (.Tuple [a, b] k2 pt2) pos.line X.env = pure false := by rfl) :
    SS X cl W (.Assign [.Tuple [.Name x px, .Name y py] kt pt] (.Tuple [a, b] k2 pt2) pos) (sPar2 k l ms) :=
  PS.imp (ps_par hc hN hi hj hij hx hy ha hw hs) fun D sg H ⟨mu, env, h, rel, p⟩ => ⟨mu, env, h, rel, (PostS.of rel.er p).mono fun b H1 ⟨mu1, d, h1, e, hr, rb, p1⟩ => by
    cases rb with
    | nil => exact p1.elim
    | cons r1 rest =>
      cases rest with
      | nil => exact p1.elim
      | cons r2 rest2 =>
        cases rest2 with
        | cons _ _ => exact p1.elim
        | nil => exact ⟨_, _, rfl, p1 _ _ _ (Ext.refl _ _) hr (((rel.er.mono e).set r1).set r2)⟩⟩
theorem ss_par3 {k l m : Nat} {x y z : Str} {px py pz pt pt2 : Pos} {kt k2} (hc : X.calm = true) (hN : X.N.Nodup) (hi : X.N[k]? = some x) (hj : X.N[l]? = some y) (hm : X.N[m]? = some z) (hij : k ≠ l) (hil : k ≠ m) (hjl : l ≠ m)
    (hx : X.env.scope.names.lookup x = some .local) (hy : X.env.scope.names.lookup y = some .local) (hz : X.env.scope.names.lookup z = some .local) (ha : SA X cl W [a, b, c] ms)
    (hw : swappedStores [.Tuple [.Name x px, .Name y py, .Name z pz] kt pt] (.Tuple [a, b, c] k2 pt2) X.env = pure (some [x, y, z]) := by rfl)
    (hs : swapsWithSole [.Tuple [.Name x px, .Name y py, .Name z pz] kt pt] (.Tuple [a, b, c] k2 pt2) pos.line X.env = pure false := by rfl) :
    SS X cl W (.Assign [.Tuple [.Name x px, .Name y py, .Name z pz] kt pt] (.Tuple [a, b, c] k2 pt2) pos) (sPar3 k l m ms) :=
  PS.imp (ps_par3 hc hN hi hj hm hij hil hjl hx hy hz ha hw hs) fun D sg H ⟨mu, env, h, rel, p⟩ => ⟨mu, env, h, rel, (PostS.of rel.er p).mono fun b H1 ⟨mu1, d, h1, e, hr, rb, p1⟩ => by
    cases rb with
    | nil => exact p1.elim
    | cons r1 rest =>
      cases rest with
      | nil => exact p1.elim
      | cons r2 rest2 =>
        cases rest2 with
        | nil => exact p1.elim
        | cons r3 rest3 =>
          cases rest3 with
          | cons _ _ => exact p1.elim
          | nil => exact ⟨_, _, _, rfl, p1 _ _ _ (Ext.refl _ _) hr ((((rel.er.mono e).set r1).set r2).set r3)⟩⟩
/-- x op= e of ints -/
def PIs (X : Cx) (cl : Nat → Addr) (op : Operator) (g : O2) : Prop := PIp X op (r2 X.K cl g)
theorem ip_addS : PIs X cl .Add vAddI := by
  intro pins s σ H x y v u Q I rx ry ⟨mu, h, d, e, hr, rd, re, p⟩
  cases rd with
  | int i =>
    cases re with
    | int j => exact ip_add pins s σ H _ _ v u Q I rx ry ⟨i, j, rfl, rfl, p _ _ _ (Ext.refl _ _) hr (.int _)⟩
    | _ => exact p.elim
  | _ => exact p.elim
theorem ip_subS : PIs X cl .Sub vSub := by
  intro pins s σ H x y v u Q I rx ry ⟨mu, h, d, e, hr, rd, re, p⟩
  cases rd with
  | int i =>
    cases re with
    | int j => exact ip_sub pins s σ H _ _ v u Q I rx ry ⟨i, j, rfl, rfl, p _ _ _ (Ext.refl _ _) hr (.int _)⟩
    | _ => exact p.elim
  | _ => exact p.elim
theorem ss_aug {k : Nat} {x : Str} {op : Operator} {g : O2} (hN : X.N.Nodup) (hi : X.N[k]? = some x) (hx : Loc X.env.scope x) (he : SE X cl W e ma) (ho : PIs X cl op g) (hf : X.fn x = true ∨ X.env.scope.names.lookup x = some .local := by first | exact .inl rfl | exact .inr rfl | assumption) :
    SS X cl W (.AugAssign (.Name x p2) op e pos) (sAug k g ma) :=
  PS.imp (ps_aug hN hi hx he ho hf) fun D sg H ⟨mu, env, h, rel, p⟩ => by
    unfold sAug at p
    cases q : env[k]? with
    | none => rw [q] at p; exact p.elim
    | some z =>
      cases z with
      | none => rw [q] at p; exact p.elim
      | some d =>
        rw [q] at p
        obtain ⟨v, hv, rv⟩ := rel.er.2 k d q
        refine ⟨v, hv, mu, env, h, rel, (PostS.of rel.er p).mono fun b H1 ⟨mu1, d1, h1, e, hr, rb, p1⟩ => ⟨mu1, h1, d, d1, hr, rv.mono e, rb, ?_⟩⟩
        cases q1 : g d d1 h1 with
        | none => rw [q1] at p1; exact p1.elim
        | some r =>
          rw [q1] at p1
          exact fun w H' mu' e' hr' rw' => p1 _ _ _ e' hr' (((rel.er.mono e).mono e').set rw')
end
end DS

set_option Elab.async false
set_option linter.all false
set_option maxRecDepth 100000
set_option maxHeartbeats 4000000
/-! DSG: what is walked. -/
namespace DSE1
open PySem PySem.Builtin
set_option maxHeartbeats 1000000 in
theorem meets_enum1 {v : Value} {o : Obj} {H : Heap → Prop} (B : Begins v o H) :
    Meets (Builtin.«enumerate.__new__» ⟨[.type "enumerate", v], []⟩) (fun _ R s => H s.heap ∧
      R (.ok (.ret (.ref (s.heap.push o).objs.size))) { s with heap := (s.heap.push o).push { cls := .type "enumerate", data := .fields #[.none, .bool false, .ref s.heap.objs.size, rawInt 0, .none, .none] } }) :=
  .of_wp fun prog w A R s h => by
    obtain ⟨hp, g, d, tk, os⟩ := s; obtain ⟨h1, h⟩ := h
    have hsub := sub_enumerate
    have q1 : ∀ {A' : Around} {E : Value → Shared → Prop} {Q : Value → Shared → Prop}, Q (.ref hp.objs.size) ⟨hp.push o, g, d, tk, os⟩ → wpAny (model prog w) A' (pyIter v) Q E ⟨hp, g, d, tk, os⟩ :=
      fun q => B.iter prog w _ _ ⟨hp, g, d, tk, os⟩ _ h1 q
    wp_walk using q1
    refine wpAny_stack_any fun st => wpAny_pure ?_
    split
    · rename_i c _ _ _ _ _
      cases (c == Value.type "enumerate")
      · wp_walk using q1
        exact ⟨_, rfl, h⟩
      · wp_walk using q1
        exact ⟨_, rfl, h⟩
    · wp_walk using q1
      exact ⟨_, rfl, h⟩
theorem call_enum1 {prog : Program} {w : World} {A : Around} {E : Value → Shared → Prop} {s : Shared} {v : Value} {o : Obj} {H : Heap → Prop} {Q : Value → Shared → Prop} (B : Begins v o H) (h1 : H s.heap)
    (h : ∀ h', IsEnum h' (s.heap.objs.size + 1) s.heap.objs.size 0 .none → h'.get? s.heap.objs.size = some o → h'.objs.size = s.heap.objs.size + 2 →
      (∀ b o, s.heap.get? b = some o → h'.get? b = some o) → Q (.ref (s.heap.objs.size + 1)) { s with heap := h' }) :
    wpAny (model prog w) A (call (.type "enumerate") [v]) Q E s := by
  refine callType_new F.called_enumerate (by decide) (F.typeCall_enumerate_1 _) (F.newCall_enumerate_1 _) (fun obj => F.args_object_init_2 obj _) F.entry_enumerate_new
    (meets_enum1 B) ⟨h1, ?_⟩
  have hz : (s.heap.push o).objs.size = s.heap.objs.size + 1 := Heap.size_push ..
  show _ ∧ _
  rw [hz]
  have he : IsEnum ((s.heap.push o).push { cls := .type "enumerate", data := .fields #[.none, .bool false, .ref s.heap.objs.size, rawInt 0, .none, .none] }) (s.heap.objs.size + 1) s.heap.objs.size 0 .none := by
    have := Heap.get?_push_size (s.heap.push o) (o := { cls := .type "enumerate", data := .fields #[.none, .bool false, .ref s.heap.objs.size, rawInt 0, .none, .none] }) rfl
    rw [hz] at this; exact this
  refine ⟨⟨_, he, rfl⟩, h _ he (Heap.get?_push_of_some _ (Heap.get?_push_size _ B.free)) (by rw [Heap.size_push, hz]) fun b o x => Heap.get?_push_of_some _ (Heap.get?_push_of_some _ x)⟩
end DSE1

namespace DS
open PySem PySem.Spec PyProof.Rows L2
/-! ### enumerate of a tuple -/
def IteT (K : PySem.W.Frag) (a : Addr) : It :=
  ⟨fun i H => ∃ (xs : List V) (x : V), SqT K H a xs ∧ xs[i]? = some x, fun i H v H' => ∃ T x, v = .ref T ∧ H T = none ∧ H' = upd H T (.tup [.int (i : Nat), x]) ∧ ∀ xs, SqT K H a xs → xs[i]? = some x, fun i H => ∃ xs : List V, SqT K H a xs ∧ xs.length = i⟩
theorem turn_enumT {P : Program} {w : World} {K : PySem.W.Frag} {elts : List Expr} {kk : Nat} {tpos : Pos} (a e it : Addr) :
    Turn P w K (.Tuple elts kk tpos) (IteT K a) [e, it] e (fun i h => (∃ old, IsEnum h e it ((i : Nat) : Int) old) ∧ h.IsTupleIter it a i ∧ e ≠ it ∧ a ≠ it ∧ a ≠ e) where
  mem := by simp
  obj := fun i h st b hb => by
    obtain ⟨⟨old, he⟩, ⟨o, ho, hc, hd⟩, _⟩ := st
    have e' : b = e ∨ b = it := by simpa using hb
    rcases e' with z | z
    · rw [z]; exact ⟨_, he, fun v q => nomatch q⟩
    · rw [z]; exact ⟨o, ho, fun v q => by rw [hd] at q; cases q⟩
  keep := fun i h h' st k => let ⟨⟨old, he⟩, hi, hne⟩ := st; ⟨⟨old, k e (by simp) _ he⟩, hi.at fun o q => k it (by simp) o q, hne⟩
  item := by
    intro X hP hw hK hc i pins s σ H E I hf st hg
    subst hP hw hK
    obtain ⟨⟨old, he⟩, hit, hne, hai, hae⟩ := st
    obtain ⟨xs, x, hq, hx⟩ := hg
    obtain ⟨its, rv, p, hz⟩ := I.tuple hq
    obtain ⟨u, hu, ru⟩ := rv.get hx
    have hel : e < s.heap.objs.size := Heap.lt_size he
    have hil : it < s.heap.objs.size := by obtain ⟨_, q, _⟩ := hit; exact Heap.lt_size q
    have hlt : i < its.toArray.size := by
      have := (List.getElem?_eq_some_iff.mp hu).1
      simpa using this
    have DD := Draws.tuple (prog := X.prog) (w := X.w) (A := X.A.in1) (show X.A.in1.handled = none from I.ok.hd hc) it a hai its.toArray
    refine wpAny_pyNext_enum_itemD DD he ⟨hit, p⟩ hlt hne (by simp only [List.mem_cons, List.not_mem_nil, or_false, not_or]; exact ⟨hne, Ne.symm hae⟩) fun x' h' tk hP' ho hit' hT hsz hk => ?_
    have ex : x' = u := by
      have h1 : its.toArray[i]? = some x' := hP'
      have h2 : its.toArray[i]? = some u := by simpa using hu
      rw [h1] at h2; exact Option.some.inj h2
    subst ex
    refine ⟨_, rfl, wpAny_letOwnedTupleGo_enum (s := { s with heap := h', toks := tk + 1 }) ho fun h'' he' sb => ?_⟩
    have hT2 : h''.get? s.heap.objs.size = some { cls := .type "tuple", data := .seq #[.int i tk, x'] } := (sb.2 _ (Nat.ne_of_gt hel)).trans hT
    have new : ObjOk X.prog X.w (upd H s.heap.objs.size (.tup [.int (i : Nat), x])) h'' s.heap.objs.size (.tup [.int (i : Nat), x]) :=
      ⟨by show 2 ≤ sizeLine; decide, [.int i tk, x'], .cons ⟨_, rfl⟩ (.cons ru .nil), ⟨_, hT2, rfl, _, rfl⟩⟩
    have I1 : Inv X pins σ (upd H s.heap.objs.size (.tup [.int (i : Nat), x])) { s with heap := h'', toks := tk + 1 } :=
      I.turnedNew (ch := [e, it]) (fun b ob hb q => (sb.2 b (fun z => hb (by simp [z]))).trans (hk b ob (fun z => hb (by simp [z])) (fun z => hb (by simp [z])) q)) hf (Nat.le_refl _) new
    refine ⟨.ref s.heap.objs.size, _, I1, rfl, ⟨_, x, rfl, I.hok.fresh (Nat.le_refl _), rfl, fun ys hy => by rw [I.tuple_inj hy hq]; exact hx⟩, ⟨⟨x', ?_⟩, hit'.1.at fun o q => (sb.2 it (Ne.symm hne)).trans q, hne, hai, hae⟩, fun b hb => ?_⟩
    · have e1 : ((i + 1 : Nat) : Int) = (i : Int) + 1 := by omega
      rw [e1]; exact he'
    · have hb' : b < s.heap.objs.size := by
        have e' : b = e ∨ b = it := by simpa using hb
        rcases e' with z | z
        · rw [z]; exact hel
        · rw [z]; exact hil
      rw [upd_ne (Nat.ne_of_lt hb')]
      exact (hf b hb).1
  done := by
    intro X hP hw hK hc i pins s σ H E I hf st hg
    subst hP hw hK
    obtain ⟨⟨old, he⟩, hit, hne, hai, hae⟩ := st
    obtain ⟨xs, hq, hx⟩ := hg
    obtain ⟨its, rv, p, hz⟩ := I.tuple hq
    obtain ⟨f0, f1, f2, f3, f4, f5⟩ := hf it (by simp)
    have hl := rv.length
    have hi : i = its.toArray.size := by simp; omega
    have DD := Draws.tuple (prog := X.prog) (w := X.w) (A := X.A.in1) (show X.A.in1.handled = none from I.ok.hd hc) it a hai its.toArray
    exact wpAny_pyNext_enum_endD DD he ⟨by rw [← hi]; exact hit, p⟩ fun h' eb => ⟨rfl, I.turned (t' := s.toks) (fun b o hb q => eb b o hb q) f0 f1 f3 f4 f5⟩
  self := fun A i s Q E st h => let ⟨⟨_, he⟩, _⟩ := st; wpAny_pyIter_enum he h

/-! ### meanings -/
inductive Src where
  | st (xs : List D)
  | sl (xs : List D)
  | lv (n : Nat)
inductive Iter where
  | one (s : Src)
  | rng (lo : Int) (n : Nat)
  | enum (s : Src)
  | zip (a b : Src)
def Src.get : Src → Nat → Hs → Option (Option D)
  | .st xs, i, _ => some xs[i]?
  | .sl xs, i, _ => some xs[i]?
  | .lv n, i, h => (h[n]?.bind lsO).map fun xs => xs[i]?
def Src.len : Src → Hs → Nat
  | .st xs, _ => xs.length
  | .sl xs, _ => xs.length
  | .lv n, h => match h[n]?.bind lsO with
    | some xs => xs.length
    | none => 0
def Iter.get : Iter → Nat → Hs → Option (Option D)
  | .one s, i, h => s.get i h
  | .rng lo n, i, _ => if i < n then some (some (.int (lo + i))) else if i = n then some none else none
  | .enum s, i, h => match s.get i h with
    | some (some d) => some (some (.tup [.int i, d]))
    | some none => if s.len h = i then some none else none
    | none => none
  | .zip a b, i, h => match a.get i h, b.get i h with
    | some (some x), some (some y) => some (some (.tup [x, y]))
    | some _, some _ => some none
    | _, _ => none
def Iter.len : Iter → Hs → Nat
  | .one s, h => s.len h
  | .rng _ n, _ => n
  | .enum s, h => s.len h
  | .zip a b, h => min (a.len h) (b.len h)
abbrev MI := En → Hs → R Iter
def srcOf : D → Hs → Option Src
  | .tup xs, _ => some (.st xs)
  | .sl xs, _ => some (.sl xs)
  | .ref n, h => match h[n]?.bind lsO with
    | some _ => some (.lv n)
    | none => none
  | _, _ => none
def iSeq (a : ME) : MI := fun env h => (a env h).bind fun x h1 => match srcOf x h1 with | some s => .ok (.one s) h1 | none => .bad
def rOk (i : Int) : Bool := Nat.ble i.natAbs 4611686018427387903
def iRange1 (a : ME) : MI := fun env h => (a env h).bind fun d h1 => match d with
  | .int j => if rOk j = true then .ok (.rng 0 j.toNat) h1 else .bad
  | _ => .bad
def iRange2 (a b : ME) : MI := fun env h => (a env h).bind fun d h1 => (b env h1).bind fun d' h2 => match d, d' with
  | .int i, .int j => if (rOk i && rOk j) = true then .ok (.rng i (j - i).toNat) h2 else .bad
  | _, _ => .bad
def iEnum (a : ME) : MI := fun env h => (a env h).bind fun x h1 => match srcOf x h1 with
  | some (.sl _) => .bad
  | some s => .ok (.enum s) h1
  | none => .bad
def iZip (a b : ME) : MI := fun env h => (a env h).bind fun x h1 => (b env h1).bind fun y h2 => match srcOf x h2, srcOf y h2 with
  | some (.st xs), some (.st ys) => .ok (.zip (.st xs) (.st ys)) h2
  | some (.lv xs), some (.lv ys) => .ok (.zip (.lv xs) (.lv ys)) h2
  | _, _ => .bad

/-- how an iterator of the layer answers to ours -/
def ItOK (K : PySem.W.Frag) (cl : Nat → Addr) (H0 : Hp) (mu0 : List Addr) (it : Iter) (J : It) : Prop :=
  ∀ (H : Hp) (mu : List Addr) (h : Hs) (i : Nat), Ext H0 mu0 H mu → HR K H mu cl h →
    (∀ d, it.get i h = some (some d) → J.go i H ∧ ∀ x H', J.yld i H x H' → Ext H mu H' mu ∧ HR K H' mu cl h ∧ Rp K H' mu d x) ∧ (it.get i h = some none → J.stop i H)
theorem ItOK.ext {K : PySem.W.Frag} {cl : Nat → Addr} {H0 H1 : Hp} {mu0 mu1 : List Addr} {it : Iter} {J : It} (e : Ext H0 mu0 H1 mu1) (o : ItOK K cl H0 mu0 it J) : ItOK K cl H1 mu1 it J :=
  fun H mu h i e' hr => o H mu h i (e.trans e') hr
def tI (K : PySem.W.Frag) (cl : Nat → Addr) (W : WX) (m : MI) : L2.TI := fun sg H R => ∃ mu env h, Rel K cl H mu h env sg ∧ Post (ItOK K cl) K cl W sg H mu (m env h) R
abbrev SI (X : Cx) (cl : Nat → Addr) (W : WX) (tg iter : Expr) (m : MI) : Prop := PI X tg iter (tI X.K cl W m)
theorem PI.imp {X : Cx} {tg e : Expr} {t t' : L2.TI} (h : PI X tg e t) (hi : ∀ sg H Q, t' sg H Q → t sg H Q) : PI X tg e t' := ⟨fun pins s σ H Q I q => h.run pins s σ H Q I (hi _ _ _ q)⟩

section
variable {K : PySem.W.Frag} {cl : Nat → Addr} {H : Hp} {mu : List Addr}
theorem it_tup {a : Addr} {ds : List D} {xs : List V} (s : SqT K H a xs) (r : RpA K H mu ds xs) : ItOK K cl H mu (.one (.st ds)) (Itt K a) := fun H1 mu1 h i e hr => by
  have s1 := e.sqt s
  have r1 := r.mono e
  refine ⟨fun d hd => ?_, fun hd => ?_⟩
  · have q : ds[i]? = some d := Option.some.inj hd
    obtain ⟨v, hv, rv⟩ := r1.get q
    refine ⟨⟨xs, v, s1, hv⟩, fun x H' y => ?_⟩
    obtain ⟨rfl, y⟩ := y
    have := y xs s1
    rw [hv] at this
    cases this
    exact ⟨Ext.refl _ _, hr, rv⟩
  · have q : ds[i]? = none := Option.some.inj hd
    exact ⟨xs, s1, by rw [← r1.length]; exact List.getElem?_eq_none_iff.mp q⟩
theorem it_sl {a : Addr} {ds : List D} {xs : List V} (s : Stl K H a xs) (r : RpA K H mu ds xs) : ItOK K cl H mu (.one (.sl ds)) (Itl K a) := fun H1 mu1 h i e hr => by
  have s1 := (e.mo.stl s).sql
  have r1 := r.mono e
  refine ⟨fun d hd => ?_, fun hd => ?_⟩
  · have q : ds[i]? = some d := Option.some.inj hd
    obtain ⟨v, hv, rv⟩ := r1.get q
    refine ⟨⟨xs, v, s1, hv⟩, fun x H' y => ?_⟩
    obtain ⟨rfl, y⟩ := y
    have := y xs s1
    rw [hv] at this
    cases this
    exact ⟨Ext.refl _ _, hr, rv⟩
  · have q : ds[i]? = none := Option.some.inj hd
    exact ⟨xs, s1, by rw [← r1.length]; exact List.getElem?_eq_none_iff.mp q⟩
theorem live_at {H1 : Hp} {mu1 : List Addr} {h : Hs} {n : Nat} {a : Addr} {ds : List D} (hn : mu1[n]? = some a) (hr : HR K H1 mu1 cl h) (q : h[n]?.bind lsO = some ds) : ∃ xs, SqL K H1 a xs ∧ RpA K H1 mu1 ds xs := by
  obtain ⟨ys, h1, h2⟩ := lsO_ok hr hn q
  exact ⟨ys, .inl (.inl h1), h2⟩
theorem lv_get {n i : Nat} {h : Hs} {r : Option D} (e : (Src.lv n).get i h = some r) : ∃ ds, h[n]?.bind lsO = some ds ∧ ds[i]? = r := by
  simp only [Src.get] at e
  exact Option.map_eq_some_iff.mp e
theorem it_lst {a : Addr} {n : Nat} (hn : mu[n]? = some a) : ItOK K cl H mu (.one (.lv n)) (Itl K a) := fun H1 mu1 h i e hr => by
  refine ⟨fun d hd => ?_, fun hd => ?_⟩
  · obtain ⟨ds, q, q2⟩ := lv_get hd
    obtain ⟨xs, s1, r1⟩ := live_at (e.get hn) hr q
    obtain ⟨v, hv, rv⟩ := r1.get q2
    refine ⟨⟨xs, v, s1, hv⟩, fun x H' y => ?_⟩
    obtain ⟨rfl, y⟩ := y
    have := y xs s1
    rw [hv] at this
    cases this
    exact ⟨Ext.refl _ _, hr, rv⟩
  · obtain ⟨ds, q, q2⟩ := lv_get hd
    obtain ⟨xs, s1, r1⟩ := live_at (e.get hn) hr q
    exact ⟨xs, s1, by rw [← r1.length]; exact List.getElem?_eq_none_iff.mp q2⟩
theorem it_rng {lo : Int} {n : Nat} : ItOK K cl H mu (.rng lo n) (Itr lo n) := fun H1 mu1 h i e hr => by
  refine ⟨fun d hd => ?_, fun hd => ?_⟩
  · simp only [Iter.get] at hd
    split at hd
    · rename_i hi
      cases hd
      refine ⟨hi, fun x H' y => ?_⟩
      obtain ⟨rfl, rfl⟩ := y
      exact ⟨Ext.refl _ _, hr, .int _⟩
    · split at hd <;> cases hd
  · simp only [Iter.get] at hd
    split at hd
    · cases hd
    · split at hd
      · rename_i hj; exact Nat.le_of_eq hj.symm
      · cases hd
theorem it_enumT {a : Addr} {ds : List D} {xs : List V} (s : SqT K H a xs) (r : RpA K H mu ds xs) : ItOK K cl H mu (.enum (.st ds)) (IteT K a) := fun H1 mu1 h i e hr => by
  have s1 := e.sqt s
  have r1 := r.mono e
  refine ⟨fun d hd => ?_, fun hd => ?_⟩
  · simp only [Iter.get, Src.get] at hd
    cases q : ds[i]? with
    | none =>
      rw [q] at hd
      by_cases hi : (Src.st ds).len h = i
      · simp only [if_pos hi] at hd; cases hd
      · simp only [if_neg hi] at hd; cases hd
    | some d' =>
      rw [q] at hd
      cases hd
      obtain ⟨v, hv, rv⟩ := r1.get q
      refine ⟨⟨xs, v, s1, hv⟩, fun x H' y => ?_⟩
      obtain ⟨T, z, rfl, hT, rfl, y⟩ := y
      have := y xs s1
      rw [hv] at this
      cases this
      exact ⟨Ext.tupled hT, hr.tupled hT, .tup (.inl (.inl upd_same)) (.cons (.int _) (.one (rv.mono (Ext.tupled hT))))⟩
  · simp only [Iter.get, Src.get] at hd
    cases q : ds[i]? with
    | some d' => rw [q] at hd; cases hd
    | none =>
      rw [q] at hd
      by_cases hi : (Src.st ds).len h = i
      · exact ⟨xs, s1, by rw [← r1.length]; exact hi⟩
      · simp only [if_neg hi] at hd; cases hd
theorem it_enumL {a : Addr} {n : Nat} (hn : mu[n]? = some a) : ItOK K cl H mu (.enum (.lv n)) (Ite K a) := fun H1 mu1 h i e hr => by
  cases q0 : (Src.lv n).get i h with
  | none => exact ⟨fun d hd => (by simp only [Iter.get] at hd; rw [q0] at hd; cases hd), fun hd => (by simp only [Iter.get] at hd; rw [q0] at hd; cases hd)⟩
  | some r0 =>
    obtain ⟨ds, q, q2⟩ := lv_get q0
    obtain ⟨xs, s1, r1⟩ := live_at (e.get hn) hr q
    refine ⟨fun d hd => ?_, fun hd => ?_⟩
    · simp only [Iter.get] at hd
      rw [q0] at hd
      cases r0 with
      | none =>
        by_cases hi : (Src.lv n).len h = i
        · simp only [if_pos hi] at hd; cases hd
        · simp only [if_neg hi] at hd; cases hd
      | some d' =>
        cases hd
        obtain ⟨v, hv, rv⟩ := r1.get q2
        refine ⟨⟨xs, v, s1, hv⟩, fun x H' y => ?_⟩
        obtain ⟨T, z, rfl, hT, rfl, y⟩ := y
        have := y xs s1
        rw [hv] at this
        cases this
        exact ⟨Ext.tupled hT, hr.tupled hT, .tup (.inl (.inl upd_same)) (.cons (.int _) (.one (rv.mono (Ext.tupled hT))))⟩
    · simp only [Iter.get] at hd
      rw [q0] at hd
      cases r0 with
      | some d' => cases hd
      | none => exact ⟨xs, s1, by rw [← r1.length]; exact List.getElem?_eq_none_iff.mp q2⟩
theorem it_zipT {a b : Addr} {ds es : List D} {xs ys : List V} (s : SqT K H a xs) (r : RpA K H mu ds xs) (t : SqT K H b ys) (r' : RpA K H mu es ys) : ItOK K cl H mu (.zip (.st ds) (.st es)) (RZ.ItzT K a b) := fun H1 mu1 h i e hr => by
  have s1 := e.sqt s
  have r1 := r.mono e
  have t1 := e.sqt t
  have r2 := r'.mono e
  refine ⟨fun d hd => ?_, fun hd => ?_⟩
  · simp only [Iter.get, Src.get] at hd
    cases q : ds[i]? with
    | none => rw [q] at hd; cases hd
    | some d1 =>
      cases q2 : es[i]? with
      | none => rw [q, q2] at hd; cases hd
      | some d2 =>
        rw [q, q2] at hd
        cases hd
        obtain ⟨v, hv, rv⟩ := r1.get q
        obtain ⟨v2, hv2, rv2⟩ := r2.get q2
        refine ⟨⟨xs, ys, v, v2, s1, t1, hv, hv2⟩, fun x H' y => ?_⟩
        obtain ⟨T, z, z2, rfl, hT, rfl, y, y2⟩ := y
        have h1 := y xs s1
        rw [hv] at h1
        cases h1
        have h2 := y2 ys t1
        rw [hv2] at h2
        cases h2
        exact ⟨Ext.tupled hT, hr.tupled hT, .tup (.inl (.inl upd_same)) (.cons (rv.mono (Ext.tupled hT)) (.one (rv2.mono (Ext.tupled hT))))⟩
  · simp only [Iter.get, Src.get] at hd
    cases q : ds[i]? with
    | none => exact ⟨xs, ys, s1, t1, .inl (by rw [← r1.length]; exact List.getElem?_eq_none_iff.mp q)⟩
    | some d1 =>
      cases q2 : es[i]? with
      | none => exact ⟨xs, ys, s1, t1, .inr (by rw [← r2.length]; exact List.getElem?_eq_none_iff.mp q2)⟩
      | some d2 => rw [q, q2] at hd; cases hd
theorem it_zipL {a b : Addr} {n m : Nat} (hn : mu[n]? = some a) (hm : mu[m]? = some b) : ItOK K cl H mu (.zip (.lv n) (.lv m)) (Itz K a b) := fun H1 mu1 h i e hr => by
  cases q0 : (Src.lv n).get i h with
  | none => exact ⟨fun d hd => (by simp only [Iter.get] at hd; rw [q0] at hd; cases hd), fun hd => (by simp only [Iter.get] at hd; rw [q0] at hd; cases hd)⟩
  | some r0 =>
    cases p0 : (Src.lv m).get i h with
    | none => exact ⟨fun d hd => (by simp only [Iter.get] at hd; rw [q0, p0] at hd; cases r0 <;> cases hd), fun hd => (by simp only [Iter.get] at hd; rw [q0, p0] at hd; cases r0 <;> cases hd)⟩
    | some r0' =>
      obtain ⟨ds, q, q2⟩ := lv_get q0
      obtain ⟨xs, s1, r1⟩ := live_at (e.get hn) hr q
      obtain ⟨es, p, p2⟩ := lv_get p0
      obtain ⟨ys, t1, r2⟩ := live_at (e.get hm) hr p
      refine ⟨fun d hd => ?_, fun hd => ?_⟩
      · simp only [Iter.get] at hd
        rw [q0, p0] at hd
        cases r0 with
        | none => cases hd
        | some d1 =>
          cases r0' with
          | none => cases hd
          | some d2 =>
            cases hd
            obtain ⟨v, hv, rv⟩ := r1.get q2
            obtain ⟨v2, hv2, rv2⟩ := r2.get p2
            refine ⟨⟨xs, ys, v, v2, s1, t1, hv, hv2⟩, fun x H' y => ?_⟩
            obtain ⟨T, z, z2, rfl, hT, rfl, y, y2⟩ := y
            have h1 := y xs s1
            rw [hv] at h1
            cases h1
            have h2 := y2 ys t1
            rw [hv2] at h2
            cases h2
            exact ⟨Ext.tupled hT, hr.tupled hT, .tup (.inl (.inl upd_same)) (.cons (rv.mono (Ext.tupled hT)) (.one (rv2.mono (Ext.tupled hT))))⟩
      · simp only [Iter.get] at hd
        rw [q0, p0] at hd
        cases r0 with
        | none => exact ⟨xs, ys, s1, t1, .inl (by rw [← r1.length]; exact List.getElem?_eq_none_iff.mp q2)⟩
        | some d1 =>
          cases r0' with
          | none => exact ⟨xs, ys, s1, t1, .inr (by rw [← r2.length]; exact List.getElem?_eq_none_iff.mp p2)⟩
          | some d2 => cases hd
theorem srcOf_ok {d : D} {v : V} {h : Hs} {s : Src} (hr : HR K H mu cl h) (r : Rp K H mu d v) (e : srcOf d h = some s) :
    (∃ a xs ds, v = .ref a ∧ s = .st ds ∧ SqT K H a xs ∧ RpA K H mu ds xs) ∨ (∃ a n xs, v = .ref a ∧ s = .lv n ∧ mu[n]? = some a ∧ SqL K H a xs) ∨ ∃ a xs ds, v = .ref a ∧ s = .sl ds ∧ Stl K H a xs ∧ RpA K H mu ds xs := by
  cases r with
  | tup sq ra => cases e; exact .inl ⟨_, _, _, rfl, rfl, sq, ra⟩
  | @ref n a hn =>
    unfold srcOf at e
    simp only at e
    cases q : h[n]?.bind lsO with
    | none => rw [q] at e; cases e
    | some ds =>
      rw [q] at e
      cases e
      obtain ⟨xs, s1, r1⟩ := live_at hn hr q
      exact .inr (.inl ⟨a, n, xs, rfl, rfl, hn, s1⟩)
  | sl sq ra => cases e; exact .inr (.inr ⟨_, _, _, rfl, rfl, sq, ra⟩)
  | _ => cases e
end
section
variable {X : Cx} {cl : Nat → Addr} {W : WX} {a b c e o i tg : Expr} {es : List Expr} {ma mb mc : ME} {ms : MA} {pos p p2 p3 tpos : Pos} {elts : List Expr} {kk : Nat}
theorem si_seq (ha : SE X cl W a ma) : SI X cl W tg a (iSeq ma) := by
  refine ⟨fun pins s σ H R I h => ?_⟩
  obtain ⟨mu, env, hh, rel, p⟩ := h
  refine thn (ha.run pins s σ H _ I ⟨mu, env, hh, rel, Post.bind p⟩) fun v s1 ⟨x, H1, I1, r1, q1⟩ => ?_
  obtain ⟨mu1, d, h1, e, hr, rb, p1⟩ := q1
  cases q : srcOf d h1 with
  | none => rw [q] at p1; exact p1.elim
  | some sr =>
    rw [q] at p1
    rcases srcOf_ok hr rb q with ⟨a', xs, ds, rfl, rfl, sq, ra⟩ | ⟨a', n, xs, rfl, rfl, hn, sq⟩ | ⟨a', xs, ds, rfl, rfl, sq, ra⟩
    · cases r1
      obtain ⟨its, rv, ht, hz⟩ := I1.tuple sq
      refine wpAny_pyIter_tuple (show s1.heap.IsTuple a' its.toArray from ht) ?_
      refine ⟨s1.heap.objs.size, [s1.heap.objs.size], _, _, H1, rfl, I1.kept (t' := s1.toks) fun b o e => Heap.get?_push_of_some _ e, turn_tuple a' _, ⟨_, Heap.get?_push_size _ rfl, rfl, rfl⟩, fun b hb => ?_, p1 _ _ _ (Ext.refl _ _) hr (it_tup sq ra)⟩
      have e : b = s1.heap.objs.size := by simpa using hb
      subst e
      exact I1.fpOk (Nat.le_refl _) (I1.hok.fresh (Nat.le_refl _))
    · cases r1
      obtain ⟨its, rv, ht, hz⟩ := I1.list sq
      refine wpAny_pyIter_list ht.isList ?_
      refine ⟨s1.heap.objs.size, [s1.heap.objs.size], _, _, H1, rfl, I1.kept (t' := s1.toks) fun b o e => Heap.get?_push_of_some _ e, turn_list a' _, ⟨_, Heap.get?_push_size _ rfl, rfl, rfl⟩, fun b hb => ?_, p1 _ _ _ (Ext.refl _ _) hr (it_lst hn)⟩
      have e : b = s1.heap.objs.size := by simpa using hb
      subst e
      exact I1.fpOk (Nat.le_refl _) (I1.hok.fresh (Nat.le_refl _))
    · cases r1
      obtain ⟨its, rv, ht, hz⟩ := I1.list sq.sql
      refine wpAny_pyIter_list ht.isList ?_
      refine ⟨s1.heap.objs.size, [s1.heap.objs.size], _, _, H1, rfl, I1.kept (t' := s1.toks) fun b o e => Heap.get?_push_of_some _ e, turn_list a' _, ⟨_, Heap.get?_push_size _ rfl, rfl, rfl⟩, fun b hb => ?_, p1 _ _ _ (Ext.refl _ _) hr (it_sl sq ra)⟩
      have e : b = s1.heap.objs.size := by simpa using hb
      subst e
      exact I1.fpOk (Nat.le_refl _) (I1.hok.fresh (Nat.le_refl _))
theorem rOk_ok {i : Int} (h : rOk i = true) : -(2 ^ 62) ≤ i ∧ i < 2 ^ 62 := by
  have := Nat.le_of_ble_eq_true h
  omega
theorem si_range1 (hm : X.mg "range" = none) (ha : SE X cl W a ma) (hg : Gl X "range" := by rfl) (hs : starEach [a] X.env = [(false, eval a X.env)] := by rfl) : SI X cl W tg (.Call (.Name "range" p) [a] [] pos) (iRange1 ma) :=
  PI.imp (pi_range1 hg hm (pa_cons ha pa_nil hs) hs) fun sg H Q ⟨mu, env, h, rel, p⟩ => ⟨mu, env, h, rel, (Post.bind p).mono fun b H1 ⟨mu1, d, h1, e, hr, rb, p1⟩ => by
    cases rb with
    | int j =>
      simp only at p1
      split at p1
      · rename_i hz
        obtain ⟨z1, z2⟩ := rOk_ok hz
        exact ⟨j, rfl, z1, z2, p1 _ _ _ (Ext.refl _ _) hr it_rng⟩
      · exact p1.elim
    | _ => exact p1.elim⟩
theorem si_range2 (hm : X.mg "range" = none) (ha : SE X cl W a ma) (hb : SE X cl W b mb) (hg : Gl X "range" := by rfl) (hs : starEach [a, b] X.env = [(false, eval a X.env), (false, eval b X.env)] := by rfl) (hs2 : starEach [b] X.env = [(false, eval b X.env)] := by rfl) : SI X cl W tg (.Call (.Name "range" p) [a, b] [] pos) (iRange2 ma mb) :=
  PI.imp (pi_range2 hg hm (pa_cons ha (pa_cons hb pa_nil hs2) (by rw [hs, hs2])) hs hs2) fun sg H Q ⟨mu, env, h, rel, p⟩ => ⟨mu, env, h, rel, (Post.bind p).mono fun b H1 ⟨mu1, d, h1, e, hr, rb, p1⟩ =>
    ⟨mu1, env, h1, ⟨hr, rel.er.mono e⟩, (Post.bind p1).mono fun b2 H2 ⟨mu2, d2, h2, e2, hr2, rb2, p2⟩ => by
    have rb := rb.mono e2
    cases rb with
    | int i =>
      cases rb2 with
      | int j =>
        simp only at p2
        split at p2
        · rename_i hz
          rw [Bool.and_eq_true] at hz
          obtain ⟨z1, z2⟩ := rOk_ok hz.1
          obtain ⟨z3, z4⟩ := rOk_ok hz.2
          exact ⟨i, j, rfl, ⟨z1, z2, z3, z4⟩, p2 _ _ _ (Ext.refl _ _) hr2 it_rng⟩
        · exact p2.elim
      | _ => exact p2.elim
    | _ => exact p2.elim⟩⟩
theorem si_enum (hm : X.mg "enumerate" = none) (ha : SE X cl W a ma) (hg : Gl X "enumerate" := by rfl) (hs : starEach [a] X.env = [(false, eval a X.env)] := by rfl) : SI X cl W (.Tuple elts kk tpos) (.Call (.Name "enumerate" p) [a] [] pos) (iEnum ma) := by
  refine ⟨fun pins s σ H R I h => ?_⟩
  obtain ⟨mu, env, hh, rel, p⟩ := h
  refine Call_ (ld_blt I hg hm boot_enumerate (PyProof.Rows.callWith_type1 (thn ((pa_cons ha pa_nil hs).run pos pins s σ H (fun vs H1 => ∃ mu1 d h1 v, vs = [v] ∧ Ext H mu H1 mu1 ∧ HR X.K H1 mu1 cl h1 ∧ Rp X.K H1 mu1 d v ∧ Post (ItOK X.K cl) X.K cl W σ H1 mu1 (match srcOf d h1 with | some (.sl _) => .bad | some s => .ok (.enum s) h1 | none => .bad) R) I
    ⟨mu, env, hh, rel, (Post.bind p).mono fun b H1 ⟨mu1, d, h1, e, hr, rb, p1⟩ => ⟨mu1, d, h1, b, rfl, e, hr, rb, p1⟩⟩) fun us s1 ⟨vs, H1, I1, r1, q1⟩ => ?_) hs rfl))
  obtain ⟨mu1, d, h1, v, rfl, e, hr, rb, p1⟩ := q1
  cases r1 with
  | cons r rr =>
    cases rr
    cases q : srcOf d h1 with
    | none => rw [q] at p1; exact p1.elim
    | some sr =>
      rw [q] at p1
      rcases srcOf_ok hr rb q with ⟨a', xs, ds, rfl, rfl, sq, ra⟩ | ⟨a', n, xs, rfl, rfl, hn, sq⟩ | ⟨a', xs, ds, rfl, rfl, sq, ra⟩
      · cases r
        obtain ⟨its, rv, p', hz⟩ := I1.tuple sq
        have hlt : a' < s1.heap.objs.size := p'.lt
        refine DSE1.call_enum1 (begins_tuple a' its.toArray) p' fun h' he hit hsz hk => wpAny_pyIter_enum he ?_
        have I2 : Inv X pins σ H1 { s1 with heap := h' } := I1.kept (t' := s1.toks) hk
        refine ⟨s1.heap.objs.size + 1, [s1.heap.objs.size + 1, s1.heap.objs.size], _, _, H1, rfl, I2, turn_enumT a' (s1.heap.objs.size + 1) s1.heap.objs.size, ⟨⟨.none, he⟩, ⟨_, hit, rfl, rfl⟩, Nat.succ_ne_self _, Nat.ne_of_lt hlt, Nat.ne_of_lt (Nat.lt_succ_of_lt hlt)⟩, fun b hb => ?_, p1 _ _ _ (Ext.refl _ _) hr (it_enumT sq ra)⟩
        have e' : b = s1.heap.objs.size + 1 ∨ b = s1.heap.objs.size := by simpa using hb
        have hle : s1.heap.objs.size ≤ b := by
          rcases e' with z | z
          · rw [z]; exact Nat.le_add_right _ _
          · rw [z]; exact Nat.le_refl _
        exact I1.fpOk hle (I1.hok.fresh hle)
      · cases r
        obtain ⟨its, rv, p', hz⟩ := I1.list sq
        refine call_enumerate_list p'.isList fun h' he hit hsz hk => wpAny_pyIter_enum he ?_
        have I2 : Inv X pins σ H1 { s1 with heap := h' } := I1.kept (t' := s1.toks) hk
        refine ⟨s1.heap.objs.size + 1, [s1.heap.objs.size + 1, s1.heap.objs.size], _, _, H1, rfl, I2, turn_enum a' (s1.heap.objs.size + 1) s1.heap.objs.size, ⟨⟨.none, he⟩, hit, Nat.succ_ne_self _⟩, fun b hb => ?_, p1 _ _ _ (Ext.refl _ _) hr (it_enumL hn)⟩
        have e' : b = s1.heap.objs.size + 1 ∨ b = s1.heap.objs.size := by simpa using hb
        have hle : s1.heap.objs.size ≤ b := by
          rcases e' with z | z
          · rw [z]; exact Nat.le_add_right _ _
          · rw [z]; exact Nat.le_refl _
        exact I1.fpOk hle (I1.hok.fresh hle)
      · exact p1.elim
theorem si_zip (hm : X.mg "zip" = none) (ha : SE X cl W a ma) (hb : SE X cl W b mb) (hg : Gl X "zip" := by rfl)
    (hs : starEach [a, b] X.env = (false, eval a X.env) :: starEach [b] X.env := by rfl) (hs2 : starEach [b] X.env = (false, eval b X.env) :: starEach [] X.env := by rfl) (hpl : (backTo pos (starEach [b] X.env)).any (·.1) = false := by rfl) :
    SI X cl W (.Tuple elts kk tpos) (.Call (.Name "zip" p) [a, b] [] pos) (iZip ma mb) :=
  PI.imp (RZ.pi_zipA hg hm (pa_cons ha (pa_cons hb pa_nil hs2) hs) hs hpl) fun sg H Q ⟨mu, env, h, rel, p⟩ => ⟨mu, env, h, rel, (Post.bind p).mono fun b H1 ⟨mu1, d, h1, e, hr, rb, p1⟩ =>
    ⟨mu1, env, h1, ⟨hr, rel.er.mono e⟩, (Post.bind p1).mono fun b2 H2 ⟨mu2, d2, h2, e2, hr2, rb2, p2⟩ => by
      have rb := rb.mono e2
      cases q : srcOf d h2 with
      | none => rw [q] at p2; exact p2.elim
      | some sr =>
        cases q2 : srcOf d2 h2 with
        | none => rw [q, q2] at p2; cases sr <;> exact p2.elim
        | some sr2 =>
          rw [q, q2] at p2
          rcases srcOf_ok hr2 rb q with ⟨a', xs, ds, rfl, rfl, sq, ra⟩ | ⟨a', n, xs, rfl, rfl, hn, sq⟩ | ⟨a', xs, ds, rfl, rfl, sq, ra⟩
          · rcases srcOf_ok hr2 rb2 q2 with ⟨a'', ys, es', rfl, rfl, sq', ra'⟩ | ⟨a'', n', ys, rfl, rfl, hn', sq'⟩ | ⟨a'', ys, es', rfl, rfl, sq', ra'⟩
            · exact ⟨a', a'', xs, ys, rfl, .inr ⟨sq, sq', p2 _ _ _ (Ext.refl _ _) hr2 (it_zipT sq ra sq' ra')⟩⟩
            · exact p2.elim
            · exact p2.elim
          · rcases srcOf_ok hr2 rb2 q2 with ⟨a'', ys, es', rfl, rfl, sq', ra'⟩ | ⟨a'', n', ys, rfl, rfl, hn', sq'⟩ | ⟨a'', ys, es', rfl, rfl, sq', ra'⟩
            · exact p2.elim
            · exact ⟨a', a'', xs, ys, rfl, .inl ⟨sq, sq', p2 _ _ _ (Ext.refl _ _) hr2 (it_zipL hn hn')⟩⟩
            · exact p2.elim
          · rcases srcOf_ok hr2 rb2 q2 with ⟨a'', ys, es', rfl, rfl, sq', ra'⟩ | ⟨a'', n', ys, rfl, rfl, hn', sq'⟩ | ⟨a'', ys, es', rfl, rfl, sq', ra'⟩
            · exact p2.elim
            · exact p2.elim
            · exact p2.elim⟩⟩
end
end DS

set_option Elab.async false
set_option linter.all false
set_option maxRecDepth 100000
set_option maxHeartbeats 4000000
/-! DSH: loops, comprehensions, what is thrown away, defs and calls. -/
namespace DS
open PySem PySem.Spec PyProof.Rows L2

/-! ### what refers below n -/
mutual
def dLow (n : Nat) : D → Bool
  | .tup xs => dLows n xs
  | .sl xs => dLows n xs
  | .ref k => decide (k < n)
  | .non => true
  | .bl _ => true
  | .int _ => true
  | .str _ => true
def dLows (n : Nat) : List D → Bool
  | [] => true
  | x :: xs => dLow n x && dLows n xs
end
def oLow (n : Nat) : O → Bool
  | .lst xs => dLows n xs
  | .dct kvs => dLows n (kvs.map (·.2))
  | .dtt kvs => dLows n (kvs.map (·.2))
  | .ins _ fs => dLows n (fs.map (·.2))
def eLow (n : Nat) (e : En) : Bool := e.all fun o => match o with | some d => dLow n d | none => true
def gcR (n : Nat) : R D → R D
  | .ok d h => if (h.take n).all (oLow n) = true then
      (if dLow n d = true then .ok d (h.take n)
       else match d with
        | .ref k => match h[k]? with
          | some o => if (oLow n o && decide (n ≤ k)) = true then .ok (.ref n) (h.take n ++ [o]) else .ok d h
          | none => .ok d h
        | _ => .ok d h)
      else .ok d h
  | .exc x h => .exc x h
  | .bad => .bad
def wipeE (e : En) : List Nat → En
  | [] => e
  | v :: vs => (wipeE e vs).set v none
def tidyE (clr : List Nat) (n : Nat) (e : En) (h : Hs) : En × Hs :=
  if (eLow n (wipeE e clr) && (h.take n).all (oLow n)) = true then (wipeE e clr, h.take n) else (wipeE e clr, h)
/-- a body whose own names are forgotten behind it, and what it made with them -/
def sTidy (clr : List Nat) (m : MS) : MS := fun env h => match m env h with
  | .nx e h1 => .nx (tidyE clr h.length e h1).1 (tidyE clr h.length e h1).2
  | .ct e h1 => .ct (tidyE clr h.length e h1).1 (tidyE clr h.length e h1).2
  | r => r

section
variable {K : PySem.W.Frag} {cl : Nat → Addr} {H : Hp} {mu mu' : List Addr} {n : Nat}
mutual
theorem Rp.cut (hp : mu <+: mu') (hl : n ≤ mu.length) : ∀ {d : D} {v : V}, Rp K H mu' d v → dLow n d = true → Rp K H mu d v
  | _, _, .non, _ => .non
  | _, _, .bl b, _ => .bl b
  | _, _, .int i, _ => .int i
  | _, _, .str x, _ => .str x
  | _, _, .tup s r, h => .tup s (RpA.cutB hp hl r (by simpa only [dLow] using h))
  | _, _, .sl s r, h => .sl s (RpA.cutB hp hl r (by simpa only [dLow] using h))
  | _, _, @Rp.ref _ _ _ k a hk, h => by
    have hk' : k < n := by simpa only [dLow, decide_eq_true_eq] using h
    obtain ⟨t, rfl⟩ := hp
    rw [List.getElem?_append_left (by omega)] at hk
    exact .ref hk
theorem RpA.cutB (hp : mu <+: mu') (hl : n ≤ mu.length) : ∀ {ds : List D} {vs : List V}, RpA K H mu' ds vs → dLows n ds = true → RpA K H mu ds vs
  | _, _, .nil, _ => .nil
  | _, _, .cons a b, h => by
    simp only [dLows, Bool.and_eq_true] at h
    exact .cons (Rp.cut hp hl a h.1) (RpA.cutB hp hl b h.2)
end
theorem RpP.cutB {κ : Type} (hp : mu <+: mu') (hl : n ≤ mu.length) : ∀ {ks : List (κ × D)} {vs : List (κ × V)}, RpP K H mu' ks vs → dLows n (ks.map (·.2)) = true → RpP K H mu ks vs
  | _, _, .nil, _ => .nil
  | _, _, .cons a b, h => by
    simp only [List.map_cons, dLows, Bool.and_eq_true] at h
    exact .cons ⟨a.1, Rp.cut hp hl a.2 h.1⟩ (RpP.cutB hp hl b h.2)
theorem OR.cutB (hp : mu <+: mu') (hl : n ≤ mu.length) {a : Addr} {o : O} (r : OR K H mu' cl a o) (h : oLow n o = true) : OR K H mu cl a o := by
  cases o with
  | lst ds => obtain ⟨xs, h1, h2⟩ := r; exact ⟨xs, h1, h2.cutB hp hl h⟩
  | dct ks => obtain ⟨xs, h1, h2⟩ := r; exact ⟨xs, h1, h2.cutB hp hl h⟩
  | dtt ks => obtain ⟨xs, h1, h2⟩ := r; exact ⟨xs, h1, h2.cutB hp hl h⟩
  | ins c fs => obtain ⟨dx, gs, h1, h2⟩ := r; exact ⟨dx, gs, h1, h2.cutB hp hl h⟩
theorem HR.cutB {h' : Hs} (hp : mu <+: mu') (hl : mu.length = n) (r : HR K H mu' cl h') (h : (h'.take n).all (oLow n) = true) : HR K H mu cl (h'.take n) where
  len := by
    have : mu.length ≤ mu'.length := hp.length_le
    rw [r.len] at this
    rw [List.length_take]; omega
  nd := r.nd.sublist hp.sublist
  obj := fun m o a e1 e2 => by
    have hb : oLow n o = true := List.all_eq_true.mp h o (List.mem_of_getElem? e1)
    have hm : m < n := by have := (List.getElem?_eq_some_iff.mp e2).1; omega
    rw [List.getElem?_take_of_lt hm] at e1
    have e2' : mu'[m]? = some a := by
      obtain ⟨t, rfl⟩ := hp
      rw [List.getElem?_append_left (by omega)]; exact e2
    exact (r.obj m o a e1 e2').cutB hp (Nat.le_of_eq hl.symm) hb
theorem Ext.cutB {H0 : Hp} (e : Ext H0 mu H mu') : Ext H0 mu H mu := ⟨e.frame, e.tup, e.frz, List.prefix_refl _, fun _ h n => absurd h n⟩
theorem gc_ok {H0 : Hp} {d d' : D} {v : V} {h' h'' : Hs} (e : Ext H0 mu H mu') (hl : mu.length = n) (hr : HR K H mu' cl h') (r : Rp K H mu' d v) (q : gcR n (.ok d h') = .ok d' h'') :
    ∃ mu'', Ext H0 mu H mu'' ∧ HR K H mu'' cl h'' ∧ Rp K H mu'' d' v := by
  have same : R.ok d h' = R.ok d' h'' → ∃ mu'', Ext H0 mu H mu'' ∧ HR K H mu'' cl h'' ∧ Rp K H mu'' d' v := fun z => by
    cases z; exact ⟨mu', e, hr, r⟩
  unfold gcR at q
  simp only at q
  split at q
  · rename_i hb
    split at q
    · rename_i hd
      cases q
      exact ⟨mu, e.cutB, hr.cutB e.pre hl hb, r.cut e.pre (Nat.le_of_eq hl.symm) hd⟩
    · split at q
      · rename_i k hd
        split at q
        · rename_i o ho
          split at q
          · rename_i hz
            rw [Bool.and_eq_true, decide_eq_true_eq] at hz
            cases q
            cases r with
            | @ref _ a ha =>
              have ro := hr.obj k o a ho ha
              have nm : a ∉ mu := fun hm => by
                obtain ⟨j, hj, ej⟩ := List.getElem_of_mem hm
                obtain ⟨t, et⟩ := e.pre
                have h1 : mu'[j]? = some a := by rw [← et, List.getElem?_append_left hj]; simp [hj, ej]
                obtain ⟨g1, g2⟩ := List.getElem?_eq_some_iff.mp h1
                obtain ⟨g3, g4⟩ := List.getElem?_eq_some_iff.mp ha
                have := (List.getElem_inj hr.nd).mp (g2.trans g4.symm)
                omega
              have hcut := hr.cutB e.pre hl hb
              have M : Mo H mu H (mu ++ [a]) := ⟨fun _ _ z => z, fun _ _ _ z => z, List.prefix_append _ _⟩
              refine ⟨mu ++ [a], ⟨e.frame, e.tup, e.frz, List.prefix_append _ _, fun b hb' nb => ?_⟩, ⟨?_, ?_, fun m o' b e1 e2 => ?_⟩, .ref ?_⟩
              · rcases List.mem_append.mp hb' with z | z
                · exact absurd z nb
                · have : b = a := by simpa using z
                  subst this
                  exact e.new b (List.mem_of_getElem? ha) nb
              · rw [List.length_append, List.length_append, hcut.len]; simp
              · rw [List.nodup_append]
                refine ⟨hcut.nd, by simp, fun x hx y hy z => ?_⟩
                have : y = a := by simpa using hy
                subst this; subst z; exact nm hx
              · by_cases hm : m < (h'.take n).length
                · rw [List.getElem?_append_left hm] at e1
                  rw [List.getElem?_append_left (by rw [hcut.len]; exact hm)] at e2
                  exact (hcut.obj m o' b e1 e2).mo M fun u z => z
                · have hm' := Nat.le_of_not_lt hm
                  rw [List.getElem?_append_right hm'] at e1
                  rw [List.getElem?_append_right (by rw [hcut.len]; exact hm')] at e2
                  have e0 : m - (h'.take n).length = 0 := by
                    cases q : m - (h'.take n).length with
                    | zero => rfl
                    | succ k => rw [q] at e1; simp at e1
                  rw [e0] at e1
                  rw [hcut.len, e0] at e2
                  simp at e1 e2
                  subst e1; subst e2
                  exact (ro.cutB e.pre (Nat.le_of_eq hl.symm) hz.1).mo M fun u z => z
              · rw [List.getElem?_append_right (by omega)]; simp [hl]
          · exact same q
        · exact same q
      · exact same q
  · exact same q
end
theorem wipeE_len (e : En) : ∀ vs, (wipeE e vs).length = e.length
  | [] => rfl
  | v :: vs => by unfold wipeE; rw [List.length_set, wipeE_len e vs]
theorem wipeE_some {e : En} {i : Nat} {d : D} : ∀ {vs : List Nat}, (wipeE e vs)[i]? = some (some d) → e[i]? = some (some d) ∧ i ∉ vs
  | [], h => ⟨h, by simp⟩
  | v :: vs, h => by
    unfold wipeE at h
    by_cases hi : v = i
    · subst hi
      by_cases hv : v < (wipeE e vs).length
      · rw [List.getElem?_set_self hv] at h; cases h
      · rw [List.getElem?_eq_none (by simpa using hv)] at h; cases h
    · rw [List.getElem?_set_ne hi] at h
      obtain ⟨h1, h2⟩ := wipeE_some h
      exact ⟨h1, fun hm => (List.mem_cons.mp hm).elim (fun z => hi z.symm) h2⟩
section
variable {X : Cx} {cl : Nat → Addr} {W : WX} {a b c e o i tg : Expr} {es : List Expr} {ma mb mc : ME} {mt : MT} {ms : MA} {s1 s2 : MS} {pos p p2 p3 : Pos} {st : Stmt} {rest : List Stmt}
theorem ER.wiped {K : PySem.W.Frag} {H : Hp} {mu : List Addr} {env : En} {sg : Sg} (er : ER K H mu env sg) (vs : List Nat) : ER K H mu (wipeE env vs) sg :=
  ⟨by rw [wipeE_len]; exact er.1, fun i d q => er.2 i d (wipeE_some q).1⟩
theorem eLow_at {n : Nat} {e : En} {i : Nat} {d : D} (h : eLow n e = true) (q : e[i]? = some (some d)) : dLow n d = true := by
  have := List.all_eq_true.mp h _ (List.mem_of_getElem? q)
  exact this
theorem tidy_ok {K : PySem.W.Frag} {H0 H : Hp} {mu mu' : List Addr} {clr : List Nat} {n : Nat} {env : En} {h : Hs} {sg : Sg} (e : Ext H0 mu H mu') (hl : mu.length = n) (hr : HR K H mu' cl h) (er : ER K H mu' env sg) :
    ∃ mu'', Ext H0 mu H mu'' ∧ HR K H mu'' cl (tidyE clr n env h).2 ∧ ER K H mu'' (tidyE clr n env h).1 sg := by
  unfold tidyE
  split
  · rename_i hz
    rw [Bool.and_eq_true] at hz
    have ew := er.wiped clr
    exact ⟨mu, e.cutB, hr.cutB e.pre hl hz.2, ew.1, fun i d q => let ⟨v, h1, h2⟩ := ew.2 i d q; ⟨v, h1, h2.cut e.pre (Nat.le_of_eq hl.symm) (eLow_at hz.1 q)⟩⟩
  · exact ⟨mu', e, hr, er.wiped clr⟩
theorem sb_tidy {clr : List Nat} {sts : List Stmt} (h : SB X cl W sts s1) : SB X cl W sts (sTidy clr s1) :=
  PSs.imp h fun D sg H ⟨mu, env, h, rel, p⟩ => ⟨mu, env, h, rel, by
    unfold sTidy at p
    cases q : s1 env h with
    | nx e' h' =>
      rw [q] at p
      intro sg' H' mu' e hr er
      obtain ⟨mu2, e2, hr2, er2⟩ := tidy_ok (clr := clr) (n := h.length) e rel.hr.len hr er
      exact p sg' H' mu2 e2 hr2 er2
    | ct e' h' =>
      rw [q] at p
      intro sg' H' mu' e hr er
      obtain ⟨mu2, e2, hr2, er2⟩ := tidy_ok (clr := clr) (n := h.length) e rel.hr.len hr er
      exact p sg' H' mu2 e2 hr2 er2
    | ret d h' => rw [q] at p; exact p
    | bk e' h' => rw [q] at p; exact p
    | exc x e' h' => rw [q] at p; exact p
    | bad => rw [q] at p; exact p⟩
end

/-! ### for, while -/
def forGo (it : Iter) (g : MG) (body : MS) : Nat → Nat → En → Hs → RS
  | 0, i, e, h => match it.get i h with
    | some none => .nx e h
    | _ => .bad
  | k + 1, i, e, h => match it.get i h with
    | some none => .nx e h
    | some (some d) => match g d e h with
      | .ok e1 h1 => match body e1 h1 with
        | .nx e2 h2 => forGo it g body k (i + 1) e2 h2
        | .ct e2 h2 => forGo it g body k (i + 1) e2 h2
        | .bk e2 h2 => .nx e2 h2
        | r => r
      | _ => .bad
    | none => .bad
def sFor (mi : MI) (g : MG) (body : MS) : MS := fun env h => ofR env (mi env h) fun it h1 => forGo it g body (it.len h1) 0 env h1
def whGo (t : MT) (body : MS) : Nat → En → Hs → RS
  | 0, _, _ => .bad
  | k + 1, e, h => ofR e (t e h) fun c h1 => if c = true then match body e h1 with
      | .nx e2 h2 => whGo t body k e2 h2
      | .ct e2 h2 => whGo t body k e2 h2
      | .bk e2 h2 => .nx e2 h2
      | r => r
    else .nx e h1
def sWhile (fuel : Nat) (t : MT) (body : MS) : MS := fun env h => whGo t body fuel env h
section
variable {X : Cx} {cl : Nat → Addr} {W : WX} {a b c e o i tg iter : Expr} {es : List Expr} {ma mb mc : ME} {mt : MT} {ms : MA} {s1 s2 : MS} {pos p p2 p3 : Pos} {st : Stmt} {rest body : List Stmt} {mi : MI} {g : MG}
theorem ss_for (hp : PassesOwn (model X.prog X.w) X.A X.env X.xe) (hc : X.calm = true) (hi : SI X cl W tg iter mi) (hg : SG X cl tg g) (hb : SB X cl W body s1)
    (hs : ∀ x, foldedSetIterable iter X.env x = pure x := by intro _; rfl) : SS X cl W (.For tg iter body [] pos) (sFor mi g s1) :=
  PS.imp (ps_for hp hc hi hg hb hs) fun D sg H ⟨mu, env, h, rel, p⟩ => ⟨mu, env, h, rel, (PostS.of (rl := ItOK X.K cl) rel.er p).mono fun J H1 ⟨mu1, it, h1, e, hr, itok, p1⟩ => by
    refine ⟨fun i m sg H => ∃ mu env h, Ext H1 mu1 H mu ∧ Rel X.K cl H mu h env sg ∧ PostS X.K cl W D H mu (forGo it g s1 m i env h), ⟨_, mu1, env, h1, Ext.refl _ _, ⟨hr, rel.er.mono e⟩, p1⟩, ?_⟩
    rintro i m sg' H' ⟨mu2, env2, h2, e2, rel2, p2⟩
    obtain ⟨ok1, ok2⟩ := itok H' mu2 h2 i e2 rel2.hr
    cases q : it.get i h2 with
    | none =>
      cases m with
      | zero => unfold forGo at p2; rw [q] at p2; exact p2.elim
      | succ k => unfold forGo at p2; rw [q] at p2; exact p2.elim
    | some r =>
      cases r with
      | none =>
        refine .inl ⟨ok2 q, ?_⟩
        cases m with
        | zero => unfold forGo at p2; rw [q] at p2; exact p2 _ _ _ (Ext.refl _ _) rel2.hr rel2.er
        | succ k => unfold forGo at p2; rw [q] at p2; exact p2 _ _ _ (Ext.refl _ _) rel2.hr rel2.er
      | some d =>
        cases m with
        | zero => unfold forGo at p2; rw [q] at p2; exact p2.elim
        | succ k =>
          unfold forGo at p2
          rw [q] at p2
          simp only at p2
          obtain ⟨go, yl⟩ := ok1 d q
          refine .inr ⟨go, fun sg H => ∃ mu env h, Ext H1 mu1 H mu ∧ Rel X.K cl H mu h env sg ∧ PostS X.K cl W D H mu (forGo it g s1 k (i + 1) env h), fun σ' H' hN => ⟨k, Nat.lt_succ_self k, hN⟩, fun x H3 y => ?_⟩
          obtain ⟨e3, hr3, rx⟩ := yl x H3 y
          refine ⟨mu2, env2, h2, d, ⟨hr3, rel2.er.mono e3⟩, rx, ?_⟩
          cases q1 : g d env2 h2 with
          | exc x h' => rw [q1] at p2; exact p2
          | bad => rw [q1] at p2; exact p2
          | ok e4 h4 =>
            rw [q1] at p2
            simp only at p2
            intro sg4 H4 mu4 e4' hr4 er4
            refine ⟨mu4, e4, h4, ⟨hr4, er4⟩, ?_⟩
            have E4 : Ext H' mu2 H4 mu4 := e3.trans e4'
            cases q2 : s1 e4 h4 with
            | nx e5 h5 => rw [q2] at p2; exact fun sg5 H5 mu5 e5' hr5 er5 => ⟨mu5, e5, h5, e2.trans (E4.trans e5'), ⟨hr5, er5⟩, p2.ext (E4.trans e5')⟩
            | ct e5 h5 => rw [q2] at p2; exact fun sg5 H5 mu5 e5' hr5 er5 => ⟨mu5, e5, h5, e2.trans (E4.trans e5'), ⟨hr5, er5⟩, p2.ext (E4.trans e5')⟩
            | bk e5 h5 => rw [q2] at p2; exact p2.ext E4
            | ret d5 h5 => rw [q2] at p2; exact p2.ext E4
            | exc x5 e5 h5 => rw [q2] at p2; exact p2.ext E4
            | bad => rw [q2] at p2; exact p2⟩
theorem ss_while {fuel : Nat} (hp : PassesOwn (model X.prog X.w) X.A X.env X.xe) (hc : ST X cl W c mt) (hb : SB X cl W body s1) : SS X cl W (.While c body [] pos) (sWhile fuel mt s1) :=
  PS.imp (ps_while hp hc hb) fun D sg H ⟨mu, env, h, rel, p⟩ => by
    refine ⟨fun m sg H => ∃ mu env h, Rel X.K cl H mu h env sg ∧ PostS X.K cl W D H mu (whGo mt s1 m env h), ⟨fuel, mu, env, h, rel, p⟩, ?_⟩
    rintro m sg' H' ⟨mu2, env2, h2, rel2, p2⟩
    cases m with
    | zero => exact p2.elim
    | succ k =>
      unfold whGo at p2
      refine ⟨mu2, env2, h2, rel2, (PostS.of (rl := rlB) rel2.er p2).mono fun b H3 ⟨mu3, d, h3, e, hr, rb, p3⟩ => ?_⟩
      cases rb
      cases b with
      | false => exact p3 _ _ _ (Ext.refl _ _) hr (rel2.er.mono e)
      | true =>
        simp only [if_true] at p3 ⊢
        refine ⟨fun sg H => ∃ mu env h, Rel X.K cl H mu h env sg ∧ PostS X.K cl W D H mu (whGo mt s1 k env h), fun σ' H' hN => ⟨k, Nat.lt_succ_self k, hN⟩, mu3, env2, h3, ⟨hr, rel2.er.mono e⟩, ?_⟩
        cases q2 : s1 env2 h3 with
        | nx e5 h5 => rw [q2] at p3; exact fun sg5 H5 mu5 e5' hr5 er5 => ⟨mu5, e5, h5, ⟨hr5, er5⟩, p3.ext e5'⟩
        | ct e5 h5 => rw [q2] at p3; exact fun sg5 H5 mu5 e5' hr5 er5 => ⟨mu5, e5, h5, ⟨hr5, er5⟩, p3.ext e5'⟩
        | bk e5 h5 => rw [q2] at p3; exact p3
        | ret d5 h5 => rw [q2] at p3; exact p3
        | exc x5 e5 h5 => rw [q2] at p3; exact p3
        | bad => rw [q2] at p3; exact p3
end
end DS

set_option Elab.async false
set_option linter.all false
set_option maxRecDepth 100000
set_option maxHeartbeats 4000000
/-! DSI: comprehensions; defs and calls. -/
namespace DS
open PySem PySem.Spec PyProof.Rows L2

abbrev W0 : WX := fun _ _ _ _ => False
/-- targets that are names -/
inductive Tgt where
  | nm (i : Nat)
  | tp (is : List Nat)
def setAll : En → List Nat → List D → Option En
  | e, [], [] => some e
  | e, i :: is, x :: xs => setAll (e.set i (some x)) is xs
  | _, _, _ => none
def Tgt.put : Tgt → D → En → Option En
  | .nm i, d, e => some (e.set i (some d))
  | .tp is, .tup xs, e => setAll e is xs
  | _, _, _ => none
def rdTs : List Nat → L2.TGs
  | [] => L2.gNil
  | i :: is => L2.gCons (L2.gName i) (rdTs is)
def Tgt.rd (K : PySem.W.Frag) : Tgt → L2.TG
  | .nm i => L2.gName i
  | .tp is => L2.gTup K is.length (rdTs is)
def Tgt.sl : Tgt → List Nat
  | .nm i => [i]
  | .tp is => is
def R.nox {α : Type} : R α → R α
  | .exc _ _ => .bad
  | r => r
/-- one clause -/
def cpGo (it : Iter) (g : Tgt) (t : MT) (e : ME) (env : En) : Nat → Nat → List D → Hs → R (List D)
  | 0, i, acc, h => match it.get i h with
    | some none => .ok acc h
    | _ => .bad
  | k + 1, i, acc, h => match it.get i h with
    | some none => .ok acc h
    | some (some d) => match g.put d env with
      | some e1 => (t e1 h).nox.bind fun c h2 => if c = true then (gcR h2.length (e e1 h2)).nox.bind fun y h3 => if acc.length < sizeLine then cpGo it g t e env k (i + 1) (acc ++ [y]) h3 else .bad
        else cpGo it g t e env k (i + 1) acc h2
      | none => .bad
    | none => .bad
def eComp (vs : List Nat) (mi : MI) (g : Tgt) (t : MT) (e : ME) : ME := fun env h => (mi env h).bind fun it h1 =>
  (cpGo it g t e (wipeE env vs) (it.len h1) 0 [] h1).bind fun acc h2 => .ok (.ref h2.length) (h2 ++ [.lst acc])
def tTrue : MT := fun _ h => .ok true h
/-- two clauses: the inner one gathers into acc -/
def cpGo2 (it : Iter) (g : Tgt) (t : MT) (mi1 : MI) (g1 : Tgt) (t1 : MT) (vs1 : List Nat) (e : ME) (env : En) : Nat → Nat → List D → Hs → R (List D)
  | 0, i, acc, h => match it.get i h with
    | some none => .ok acc h
    | _ => .bad
  | k + 1, i, acc, h => match it.get i h with
    | some none => .ok acc h
    | some (some d) => match g.put d env with
      | some e1 => (t e1 h).nox.bind fun c h2 => if c = true then (mi1 e1 h2).nox.bind fun it1 h3 => (cpGo it1 g1 t1 e (wipeE e1 vs1) (it1.len h3) 0 acc h3).bind fun acc' h4 => cpGo2 it g t mi1 g1 t1 vs1 e env k (i + 1) acc' h4
        else cpGo2 it g t mi1 g1 t1 vs1 e env k (i + 1) acc h2
      | none => .bad
    | none => .bad
def eComp2 (vs : List Nat) (mi : MI) (g : Tgt) (t : MT) (mi1 : MI) (g1 : Tgt) (t1 : MT) (vs1 : List Nat) (e : ME) : ME := fun env h => (mi env h).bind fun it h1 =>
  (cpGo2 it g t mi1 g1 t1 vs1 e (wipeE env vs) (it.len h1) 0 [] h1).bind fun acc h2 => .ok (.ref h2.length) (h2 ++ [.lst acc])

section
variable {K : PySem.W.Frag} {cl : Nat → Addr}
theorem wipe_set {sg : Sg} {i : Nat} {x : Option V} : ∀ {vs : List Nat}, i ∈ vs → wipe (sg.set i x) vs = wipe sg vs
  | [], h => by cases h
  | v :: vs, h => by
    unfold wipe
    by_cases hv : i ∈ vs
    · rw [wipe_set hv]
    · have e : i = v := (List.mem_cons.mp h).resolve_right hv
      subst e
      have comm : ∀ (vs : List Nat), i ∉ vs → wipe (sg.set i x) vs = (wipe sg vs).set i x := by
        intro vs
        induction vs with
        | nil => intro _; rfl
        | cons w ws ih =>
          intro hn
          have h1 : i ≠ w := fun z => hn (by simp [z])
          have h2 : i ∉ ws := fun z => hn (List.mem_cons_of_mem _ z)
          unfold wipe
          rw [ih h2, List.set_comm _ _ h1]
      rw [comm vs hv, List.set_set]
theorem wipe_idem {sg : Sg} : ∀ (vs us : List Nat), (∀ i ∈ us, i ∈ vs) → wipe (wipe sg us) vs = wipe sg vs
  | vs, [], _ => rfl
  | vs, u :: us, h => by
    show wipe ((wipe sg us).set u none) vs = _
    rw [wipe_set (h u List.mem_cons_self), wipe_idem vs us fun i hi => h i (List.mem_cons_of_mem _ hi)]
theorem er_wipe {H : Hp} {mu : List Addr} {env : En} {sg : Sg} (er : ER K H mu env sg) : ∀ vs : List Nat, ER K H mu (wipeE env vs) (wipe sg vs)
  | [] => er
  | v :: vs => by
    have ih := er_wipe er vs
    refine ⟨by rw [wipeE_len, wipe_length]; exact er.1, fun i d q => ?_⟩
    unfold wipeE at q
    unfold wipe
    by_cases hi : v = i
    · subst hi
      by_cases hv : v < (wipeE env vs).length
      · rw [List.getElem?_set_self hv] at q; cases q
      · rw [List.getElem?_eq_none (by simpa using hv)] at q; cases q
    · rw [List.getElem?_set_ne hi] at q ⊢
      exact ih.2 i d q
theorem rdTs_ok {H : Hp} {mu : List Addr} : ∀ {is : List Nat} {xs : List D} {ys : List V} {env env' : En} {sg : Sg} {vs : List Nat} {Q : Sg → Hp → Prop}, RpA K H mu xs ys → ER K H mu env sg → setAll env is xs = some env' → (∀ i ∈ is, i ∈ vs) →
    (∀ sg', ER K H mu env' sg' → wipe sg' vs = wipe sg vs → Q sg' H) → rdTs is ys sg H Q
  | [], [], _, env, env', sg, vs, Q, .nil, er, e, hv, hq => by cases e; exact ⟨rfl, hq sg er rfl⟩
  | [], x :: xs, _, env, env', sg, vs, Q, .cons a b, er, e, hv, hq => by cases e
  | i :: is, [], _, env, env', sg, vs, Q, .nil, er, e, hv, hq => by cases e
  | i :: is, x :: xs, y :: ys, env, env', sg, vs, Q, .cons a b, er, e, hv, hq => by
    refine ⟨y, ys, rfl, ?_⟩
    show rdTs is ys (sg.set i (some y)) H Q
    refine rdTs_ok b (er.set a) e (fun j hj => hv j (List.mem_cons_of_mem _ hj)) fun sg' er' hw => hq sg' er' ?_
    rw [hw, wipe_set (hv i List.mem_cons_self)]
theorem rdT_ok {H : Hp} {mu : List Addr} {g : Tgt} {d : D} {x : V} {env env' : En} {sg : Sg} {vs : List Nat} {Q : Sg → Hp → Prop} (r : Rp K H mu d x) (er : ER K H mu env sg) (e : g.put d env = some env') (hv : ∀ i ∈ g.sl, i ∈ vs)
    (hq : ∀ sg', ER K H mu env' sg' → wipe sg' vs = wipe sg vs → Q sg' H) : g.rd K x sg H Q := by
  cases g with
  | nm i => cases e; exact hq _ (er.set r) (wipe_set (hv i (by simp [Tgt.sl])))
  | tp is =>
    cases r with
    | @tup a xs ds s ra =>
      have hlen : ∀ {is : List Nat} {xs : List D} {env env' : En}, setAll env is xs = some env' → xs.length = is.length := by
        intro is
        induction is with
        | nil => intro xs env env' h; cases xs with | nil => rfl | cons _ _ => cases h
        | cons i is ih => intro xs env env' h; cases xs with | nil => cases h | cons x xs => simp only [List.length_cons]; rw [ih h]
      exact ⟨a, xs, rfl, s, by rw [← ra.length]; exact hlen e, rdTs_ok ra er e hv hq⟩
    | _ => cases e
/-- an object apart is changed -/
theorem Ext.side {H0 H : Hp} {mu0 mu : List Addr} {p : Addr} {o : HO} (e : Ext H0 mu0 H mu) (hp : H0 p = none) : Ext H0 mu0 (upd H p o) mu where
  frame := fun a u q n => by rw [upd_ne (ne_of_none q hp)]; exact e.frame a u q n
  tup := fun a u q => by rw [upd_ne (ne_of_none q hp)]; exact e.tup a u q
  frz := fun a u w q => by rw [upd_ne (ne_of_none q hp)]; exact e.frz a u w q
  pre := e.pre
  new := e.new
theorem Mo.side {H : Hp} {mu : List Addr} {p : Addr} {o : HO} {xs : List V} (hp : H p = some (.lst xs)) : Mo H mu (upd H p o) mu :=
  ⟨fun a ys e => by
    have : a ≠ p := fun z => by subst z; rw [hp] at e; cases e
    rw [upd_ne this]; exact e, fun a x w e => by
    have : a ≠ p := fun z => by subst z; rw [hp] at e; cases e
    rw [upd_ne this]; exact e, List.prefix_refl _⟩
theorem HR.side {H : Hp} {mu : List Addr} {h : Hs} {p : Addr} {o : HO} {xs : List V} (hp : H p = some (.lst xs)) (hm : p ∉ mu) (r : HR K H mu cl h) : HR K (upd H p o) mu cl h :=
  ⟨r.len, r.nd, fun n u a e1 e2 => (r.obj n u a e1 e2).mo (Mo.side hp) fun w q => by
    have : a ≠ p := fun z => by subst z; exact hm (List.mem_of_getElem? e2)
    rw [upd_ne this]; exact q⟩
theorem Ext.notin {H0 H : Hp} {mu0 mu : List Addr} {p : Addr} {o : HO} (e : Ext H0 mu0 H mu) (h0 : H0 p = some o) (hm : p ∉ mu0) : p ∉ mu ∧ H p = some o :=
  ⟨fun z => (by have := e.new p z hm; rw [h0] at this; cases this), e.frame p o h0 hm⟩
theorem nox_ok {α : Type} {r : R α} {a : α} {h : Hs} (e : r.nox = .ok a h) : r = .ok a h := by
  cases r with
  | ok _ _ => exact e
  | exc _ _ => cases e
  | bad => cases e
theorem nox_cases {α : Type} (r : R α) : (∃ a h, r.nox = .ok a h) ∨ r.nox = .bad := by
  cases r with
  | ok a h => exact .inl ⟨a, h, rfl⟩
  | exc _ _ => exact .inr rfl
  | bad => exact .inr rfl
theorem gc_cases (n : Nat) {r : R D} {d : D} {h : Hs} (e : gcR n r = .ok d h) : ∃ d0 h0, r = .ok d0 h0 := by
  cases r with
  | ok d0 h0 => exact ⟨d0, h0, rfl⟩
  | exc _ _ => cases e
  | bad => cases e
end

section
variable {X : Cx} {cl : Nat → Addr} {W : WX} {elt tg iter tg1 iter1 : Expr} {ifs ifs1 : List Expr} {scope : Scope} {own : List (Str × Nat)} {pos spos py : Pos} {mi mi1 : MI} {g g1 : Tgt} {mt mt1 : MT} {me : ME} {vs vs1 : List Nat}
abbrev STs (X : Cx) (cl : Nat → Addr) (W : WX) (es : List Expr) (m : MT) : Prop := PTs X es (tT X.K cl W m)
theorem sts_nil : STs X cl W [] tTrue := ⟨fun pins s σ H Q I ⟨mu, env, h, rel, p⟩ => pts_nil.run pins s σ H Q I (p _ _ _ (Ext.refl _ _) rel.hr rfl)⟩
theorem sts_one {c : Expr} (h : ST X cl W c mt) : STs X cl W [c] mt := pts_one h
/-- the gathering loop, from any heap in which the list stands apart at L -/
theorem lc_go {J : It} {it : Iter} {L : Addr} {H1 : Hp} {mu1 : List Addr} {sg : Sg} {env : En} {Fin : Hp → Prop} {Pf : List D → Hs → Prop} (hL : H1 L = none) (itok : ItOK X.K cl H1 mu1 it J) (hv : ∀ i ∈ g.sl, i ∈ vs)
    (er0 : ER X.K H1 mu1 env (wipe sg vs)) (hid : wipe (wipe sg vs) vs = wipe sg vs)
    (fin : ∀ H mu h acc av, Ext H1 mu1 H mu → L ∉ mu → H L = some (.lst av) → HR X.K H mu cl h → RpA X.K H mu acc av → Pf acc h → Fin H)
    (W' : Nat → Nat → Hp → Prop)
    (hW : ∀ i m H, W' i m H ↔ ∃ mu h acc av, Ext H1 mu1 H mu ∧ L ∉ mu ∧ H L = some (.lst av) ∧ HR X.K H mu cl h ∧ RpA X.K H mu acc av ∧ (match cpGo it g mt me env m i acc h with | .ok acc' h' => Pf acc' h' | _ => False)) :
    ∀ i m H, W' i m H → (J.stop i H ∧ Fin H) ∨ (J.go i H ∧ ∃ Nx : Hp → Prop, (∀ H', Nx H' → ∃ m', m' < m ∧ W' (i + 1) m' H') ∧ ∀ x H', J.yld i H x H' → g.rd X.K x (wipe sg vs) H' fun σ2 H2 => wipe σ2 vs = wipe sg vs ∧ tT X.K cl W0 mt σ2 H2 fun b H3 =>
      if b = true then tE X.K cl W0 me σ2 H3 fun y H4 => ∃ acc, H4 L = some (.lst acc) ∧ acc.length < sizeLine ∧ Nx (upd H4 L (.lst (acc ++ [y]))) else Nx H3) := by
  intro i m H hw
  obtain ⟨mu, h, acc, av, e, nL, hl, hr, ra, p⟩ := (hW i m H).mp hw
  obtain ⟨ok1, ok2⟩ := itok H mu h i e hr
  cases q : it.get i h with
  | none => cases m <;> (unfold cpGo at p; rw [q] at p; exact p.elim)
  | some r =>
    cases r with
    | none =>
      refine .inl ⟨ok2 q, ?_⟩
      have p' : Pf acc h := by cases m <;> (unfold cpGo at p; rw [q] at p; exact p)
      exact fin H mu h acc av e nL hl hr ra p'
    | some d =>
      cases m with
      | zero => unfold cpGo at p; rw [q] at p; exact p.elim
      | succ k =>
        unfold cpGo at p
        rw [q] at p
        simp only at p
        obtain ⟨go, yl⟩ := ok1 d q
        refine .inr ⟨go, fun H => W' (i + 1) k H, fun H' hN => ⟨k, Nat.lt_succ_self k, hN⟩, fun x H3 y => ?_⟩
        obtain ⟨e3, hr3, rx⟩ := yl x H3 y
        obtain ⟨nL3, hl3⟩ := e3.notin hl nL
        cases q1 : g.put d env with
        | none => rw [q1] at p; exact p.elim
        | some e4 =>
          rw [q1] at p
          simp only at p
          refine rdT_ok rx (er0.mono (e.trans e3)) q1 hv fun sg2 er2 hw2 => ⟨hw2.trans hid, mu, e4, h, ⟨hr3, er2⟩, ?_⟩
          rcases nox_cases (mt e4 h) with ⟨c, h2, q2⟩ | q2
          · rw [q2] at p
            simp only [bind_ok] at p
            rw [nox_ok q2]
            intro b H4 mu4 e4' hr4 rb
            cases rb
            obtain ⟨nL4, hl4⟩ := e4'.notin hl3 nL3
            have er4 := er2.mono e4'
            cases c with
            | false =>
              simp only [Bool.false_eq_true, if_false] at p ⊢
              exact (hW _ _ _).mpr ⟨mu4, h2, acc, av, e.trans (e3.trans e4'), nL4, hl4, hr4, (ra.mono e3).mono e4', p⟩
            | true =>
              simp only [if_true] at p ⊢
              refine ⟨mu4, e4, h2, ⟨hr4, er4⟩, ?_⟩
              rcases nox_cases (gcR h2.length (me e4 h2)) with ⟨y2, h3, q3⟩ | q3
              · rw [q3] at p
                simp only [bind_ok] at p
                have q3' := nox_ok q3
                obtain ⟨d0, h0, q0⟩ := gc_cases _ q3'
                rw [q0] at q3' ⊢
                intro v5 H5 mu5 e5 hr5 r5
                obtain ⟨mu6, e6, hr6, r6⟩ := gc_ok e5 hr4.len hr5 r5 q3'
                obtain ⟨nL6, hl6⟩ := e6.notin hl4 nL4
                by_cases hz : acc.length < sizeLine
                · rw [if_pos hz] at p
                  refine ⟨av, hl6, by rw [← ra.length]; exact hz, (hW _ _ _).mpr ⟨mu6, h3, acc ++ [y2], av ++ [v5], (e.trans (e3.trans (e4'.trans e6))).side hL, nL6, upd_same, hr6.side hl6 nL6, ?_, p⟩⟩
                  exact ((((ra.mono e3).mono e4').mono e6).append (.one r6)).mo (Mo.side hl6)
                · rw [if_neg hz] at p; exact p.elim
              · rw [q3] at p; exact p.elim
          · rw [q2] at p; exact p.elim
theorem comp_ok (hv : ∀ i ∈ g.sl, i ∈ vs) : ∀ (sg : Sg) (H : Hp) (Q : VK), tE X.K cl W (eComp vs mi g mt me) sg H Q → tLc (tI X.K cl W mi) (g.rd X.K) (tT X.K cl W0 mt) (tE X.K cl W0 me) vs sg H Q :=
  fun sg H Q ⟨mu, env, h, rel, p⟩ => ⟨mu, env, h, rel, (Post.bind (rl := ItOK X.K cl) p).mono fun J H1 ⟨mu1, it, h1, e, hr, itok, p1⟩ => by
    intro L hL
    have nL : L ∉ mu1 := hr.fresh hL
    refine ⟨fun i m H => ∃ mu h acc av, Ext H1 mu1 H mu ∧ L ∉ mu ∧ H L = some (.lst av) ∧ HR X.K H mu cl h ∧ RpA X.K H mu acc av ∧ (match cpGo it g mt me (wipeE env vs) m i acc h with | .ok acc' h' => Post (Rp X.K) X.K cl W sg H1 mu1 (.ok (.ref h'.length) (h' ++ [.lst acc'])) Q | _ => False),
      ⟨it.len h1, mu1, h1, [], [], Ext.tupled hL, nL, upd_same, hr.tupled hL, .nil, ?_⟩, ?_⟩
    · cases q : cpGo it g mt me (wipeE env vs) (it.len h1) 0 [] h1 with
      | ok acc h2 => rw [q] at p1; exact p1
      | exc x h2 =>
        have : ∀ (k i : Nat) (acc : List D) (h : Hs) (x : Ex) (h' : Hs), cpGo it g mt me (wipeE env vs) k i acc h ≠ .exc x h' := by
          intro k
          induction k with
          | zero => intro i acc h x h' z; unfold cpGo at z; split at z <;> cases z
          | succ k ih =>
            intro i acc h x h' z
            unfold cpGo at z
            split at z
            · cases z
            · split at z
              · rename_i e1 _
                rcases nox_cases (mt e1 h) with ⟨c, h2, q2⟩ | q2
                · rw [q2] at z
                  simp only [bind_ok] at z
                  split at z
                  · rcases nox_cases (gcR h2.length (me e1 h2)) with ⟨y2, h3, q3⟩ | q3
                    · rw [q3] at z
                      simp only [bind_ok] at z
                      split at z
                      · exact ih _ _ _ _ _ z
                      · cases z
                    · rw [q3] at z; cases z
                  · exact ih _ _ _ _ _ z
                · rw [q2] at z; cases z
              · cases z
            · cases z
        exact (this _ _ _ _ _ _ q).elim
      | bad => rw [q] at p1; exact p1
    · refine lc_go (Pf := fun acc' h' => Post (Rp X.K) X.K cl W sg H1 mu1 (.ok (.ref h'.length) (h' ++ [.lst acc'])) Q) (env := wipeE env vs) hL itok hv (er_wipe (rel.er.mono e) vs) (wipe_idem vs vs fun _ h => h) (fun H mu h acc av e' nL' hl' hr' ra' pf => ?_) _ fun i m H => Iff.rfl
      have hu : upd H L (.lst av) = H := by
        funext a
        unfold upd
        split
        · rename_i z; rw [z]; exact hl'.symm
        · rfl
      have hj := hr'.joined (p := L) (o := .lst av) (u := .lst acc) nL' (fun _ z => by rw [hl'] at z; cases z) (fun _ _ z => by rw [hl'] at z; cases z) ⟨av, upd_same, ra'.mo ⟨fun a ys e => by rw [hu]; exact e, fun a x w e => by rw [hu]; exact e, List.prefix_append _ _⟩⟩
      rw [hu] at hj
      have E := e'.joined (p := L) (o := .lst av) hL
      rw [hu] at E
      refine pf _ _ _ E hj (.ref ?_)
      rw [← hr'.len]; simp⟩
theorem se_comp (hc : X.calm = true) (hN : X.N.Nodup) (hi : SI X cl W tg iter mi) (ok : BlkOk X.N X.env.scope scope own)
    (hg : ∀ (s : Shared) (H : Hp) (C : Addr) (cs : List (Str × Addr)) (fp : List Addr), PG (X.blk s H scope (compEnvC scope cs C X.env) fp) tg (g.rd X.K))
    (ht : ∀ (s : Shared) (H : Hp) (C : Addr) (cs : List (Str × Addr)) (fp : List Addr), STs (X.blk s H scope (compEnvC scope cs C X.env) fp) cl W0 ifs mt)
    (he : ∀ (s : Shared) (H : Hp) (C : Addr) (cs : List (Str × Addr)) (fp : List Addr), SE (X.blk s H scope (compEnvC scope cs C X.env) fp) cl W0 elt me) (hs : ∀ x, foldedSetIterable iter X.env x = pure x := by intro _; rfl)
    (hv : ∀ i ∈ g.sl, i ∈ own.map (·.2) := by decide) :
    SE X cl W (.ListComp elt [⟨tg, iter, ifs, 0⟩] scope pos) (eComp (own.map (·.2)) mi g mt me) := PE.imp (pe_lc hc hN hi ok hg ht he hs) (comp_ok hv)
theorem ss_setComp {k : Nat} {y : Str} (hc : X.calm = true) (hN : X.N.Nodup) (hy : X.N[k]? = some y) (hyl : X.env.scope.names.lookup y = some .local)
    (hsw : swapsWith (.ListComp elt [⟨tg, iter, ifs, 0⟩] scope pos) (some (.Name y py)) spos.line X.env = pure true) (hi : SI X cl W tg iter mi) (ok : BlkOk X.N X.env.scope scope own)
    (hg : ∀ (s : Shared) (H : Hp) (C : Addr) (cs : List (Str × Addr)) (fp : List Addr), PG (X.blk s H scope (compEnvC scope cs C X.env) fp) tg (g.rd X.K))
    (ht : ∀ (s : Shared) (H : Hp) (C : Addr) (cs : List (Str × Addr)) (fp : List Addr), STs (X.blk s H scope (compEnvC scope cs C X.env) fp) cl W0 ifs mt)
    (he : ∀ (s : Shared) (H : Hp) (C : Addr) (cs : List (Str × Addr)) (fp : List Addr), SE (X.blk s H scope (compEnvC scope cs C X.env) fp) cl W0 elt me) (hs : ∀ x, foldedSetIterable iter X.env x = pure x := by intro _; rfl)
    (hv : ∀ i ∈ g.sl, i ∈ own.map (·.2) := by decide) :
    SS X cl W (.Assign [.Name y py] (.ListComp elt [⟨tg, iter, ifs, 0⟩] scope pos) spos) (sSet k (eComp (own.map (·.2)) mi g mt me)) :=
  PS.imp (ps_setLc hc hN hy hyl hsw hi ok hg ht he hs) fun D sg H ⟨mu, env, h, rel, p⟩ => comp_ok hv sg H _ ⟨mu, env, h, rel, (PostS.of rel.er p).mono fun b H1 ⟨mu1, d, h1, e, hr, rb, p1⟩ => p1 _ _ _ (Ext.refl _ _) hr ((rel.er.mono e).set rb)⟩
end

/-! ### defs and calls -/
def startE (n : Nat) (ds : List D) : En := ds.map some ++ List.replicate (n - ds.length) none
def outR : RS → R D
  | .nx _ h => .ok .non h
  | .ret d h => .ok d h
  | .exc x _ h => .exc x h
  | _ => .bad
abbrev MF := List D → Hs → R D
def mFn (n : Nat) (body : MS) : MF := fun ds h => gcR h.length (outR (body (startE n ds) h))
/-- so many arguments -/
def guard (n : Nat) (f : MF) : MF := fun ds h => if ds.length = n then f ds h else .bad
def eCall (n : Nat) (f : MF) (a : MA) : ME := fun env h => (a env h).bind fun ds h1 => guard n f ds h1
def spM (K : PySem.W.Frag) (cl : Nat → Addr) (n : Nat) (f : MF) : Sp := fun vs H Q E => ∃ mu ds h, HR K H mu cl h ∧ RpA K H mu ds vs ∧ Post (Rp K) K cl (fun c dd _ H' => E c dd H') [] H mu (guard n f ds h) Q
theorem spM.len {K : PySem.W.Frag} {cl : Nat → Addr} {n : Nat} {f : MF} {vs : List V} {H : Hp} {Q : VK} {E : XK} (h : spM K cl n f vs H Q E) : vs.length = n := by
  obtain ⟨mu, ds, h, hR, ra, p⟩ := h
  unfold guard at p
  by_cases hl : ds.length = n
  · rw [← ra.length]; exact hl
  · rw [if_neg hl] at p; exact p.elim
theorem guard_ok {n : Nat} {f : MF} {ds : List D} {h : Hs} {K : PySem.W.Frag} {cl : Nat → Addr} {W : WX} {sg : Sg} {H : Hp} {mu : List Addr} {Q : VK} (p : Post (Rp K) K cl W sg H mu (guard n f ds h) Q) : Post (Rp K) K cl W sg H mu (f ds h) Q := by
  unfold guard at p
  by_cases hl : ds.length = n
  · rw [if_pos hl] at p; exact p
  · rw [if_neg hl] at p; exact p.elim
theorem gcR_noexc (n : Nat) (d : D) (h : Hs) (x : Ex) (h' : Hs) : gcR n (.ok d h) ≠ .exc x h' := by
  intro z
  unfold gcR at z
  simp only at z
  split at z
  · split at z
    · cases z
    · split at z
      · split at z
        · split at z <;> cases z
        · cases z
      · cases z
  · cases z
/-- a def of the module, by its meaning -/
def FnS (P : Program) (w : World) (K : PySem.W.Frag) (mg : Str → Option Value) (base : Heap) (cl : Nat → Addr) (k : Nat) (x : Str) (n : Nat) (mf : MF) : Prop :=
  ∃ f fd ps, FnOk P w K mg base (L2.CX P w) k f fd ps (spM K cl n mf) ∧ mg x = some (.ref f) ∧ PySem.W.keepIn K (.ref f) = true ∧ Binds K fd ps []
theorem er_start {K : PySem.W.Frag} {H : Hp} {mu : List Addr} {N : List Str} {ds : List D} {vs : List V} (r : RpA K H mu ds vs) : ER K H mu (startE N.length ds) (L2.start N vs) := by
  refine ⟨by simp [startE, L2.start, r.length], fun i d q => ?_⟩
  unfold startE at q
  have hi : i < ds.length := by
    by_cases hi : i < ds.length
    · exact hi
    · rw [List.getElem?_append_right (by simpa using hi), List.getElem?_replicate] at q
      split at q <;> cases q
  rw [List.getElem?_append_left (by simpa using hi), List.getElem?_map] at q
  cases q2 : ds[i]? with
  | none => rw [q2] at q; cases q
  | some d' =>
    rw [q2] at q
    cases q
    obtain ⟨v, hv, rv⟩ := r.get q2
    refine ⟨v, ?_, rv⟩
    unfold L2.start
    rw [List.getElem?_append_left (by rw [List.length_map, ← r.length]; exact hi), List.getElem?_map, hv]
    rfl
section
variable {P : Program} {w : World} {K : PySem.W.Frag} {mg : Str → Option Value} {base : Heap} {cl : Nat → Addr}
theorem fn_ok {x qual : Str} {st : Stmt} {f : Addr} {fd : FuncData} {N ps : List Str} {k : Nat} {m : MS} (F : Fun K x qual st f fd) (S : FnScope N ps (defScope st))
    (hbody : ∀ (cdv : Value) (A : Around) (outer : List Env) (s : Shared) (H : Hp) (E : XK), Room k (A.deeper (envOfC qual (defScope st) s.heap.objs.size f cdv)) →
      SB (cxOf (L2.CX P w) P w K mg base N qual (defScope st) f cdv A outer s H E) cl (fun c d _ H' => E c d H') (defBody st) m) :
    FnOk P w K mg base (L2.CX P w) (k + 1) f fd ps (spM K cl ps.length (mFn N.length m)) := by
  refine F.okX S (fun vs H Q E h => h.len) fun cdv A outer s H vs Q E hr ⟨mu, ds, h, hR, ra, p⟩ => ⟨_, hbody cdv A outer s H E hr, ?_⟩
  have p := guard_ok p
  refine ⟨mu, startE N.length ds, h, ⟨hR, er_start ra⟩, ?_⟩
  unfold mFn at p
  cases q : m (startE N.length ds) h with
  | nx e' h' =>
    rw [q] at p
    intro sg H' mu' e hr' er'
    cases q2 : gcR h.length (outR (.nx e' h')) with
    | ok d' h'' =>
      rw [q2] at p
      obtain ⟨mu2, e2, hr2, r2⟩ := gc_ok e hR.len hr' .non q2
      exact p _ _ _ e2 hr2 r2
    | exc x h'' => exact (gcR_noexc _ _ _ _ _ q2).elim
    | bad => rw [q2] at p; exact p.elim
  | ret d h' =>
    rw [q] at p
    intro v H' mu' e hr' rv
    cases q2 : gcR h.length (outR (.ret d h')) with
    | ok d' h'' =>
      rw [q2] at p
      obtain ⟨mu2, e2, hr2, r2⟩ := gc_ok e hR.len hr' rv q2
      exact p _ _ _ e2 hr2 r2
    | exc x h'' => exact (gcR_noexc _ _ _ _ _ q2).elim
    | bad => rw [q2] at p; exact p.elim
  | bk e' h' => rw [q] at p; exact p.elim
  | ct e' h' => rw [q] at p; exact p.elim
  | exc x e' h' => rw [q] at p; exact fun c dd sg H' mu' e hr' er' hx => p c dd H' mu' e hr' hx
  | bad => rw [q] at p; exact p
end
section
variable {X : Cx} {cl : Nat → Addr} {W : WX} {a b c e o i : Expr} {es : List Expr} {ms : MA} {pos p : Pos} {x : Str} {mf : MF} {k n : Nat}
theorem se_call (F : FnS X.prog X.w X.K X.mg X.base cl k x n mf) (hr : Room k X.A) (tk : Takes X W) (ha : SA X cl W (e :: es) ms) (hg : Gl X x := by rfl)
    (hdb : (x == ("__debug__" : Str)) = false := by decide) (he : starEach (e :: es) X.env = (false, eval e X.env) :: starEach es X.env := by rfl) (hpl : (backTo pos (starEach es X.env)).any (·.1) = false := by rfl) :
    SE X cl W (.Call (.Name x p) (e :: es) [] pos) (eCall n mf ms) := by
  obtain ⟨f, fd, ps, F, hm, hk, hb⟩ := F
  refine PE.imp (pe_callSD (dvs := []) F hr hg hm hk hb .nil (fun σ => passAt tk σ) ha hdb he hpl) fun sg H Q ⟨mu, env, h, rel, p⟩ => ⟨mu, env, h, rel, ?_⟩
  unfold eCall at p
  cases q : ms env h with
  | ok ds h1 =>
    rw [q] at p
    intro vs H' mu' e' hr' rv
    refine ⟨mu', ds, h1, hr', by rw [List.append_nil]; exact rv, ?_⟩
    exact Post.ext e' p
  | exc x h' => rw [q] at p; exact p
  | bad => rw [q] at p; exact p
theorem se_call0 (F : FnS X.prog X.w X.K X.mg X.base cl k x n mf) (hr : Room k X.A) (tk : Takes X W) (hg : Gl X x := by rfl)
    (hdb : (x == ("__debug__" : Str)) = false := by decide) : SE X cl W (.Call (.Name x p) [] [] pos) (eCall n mf aNil) := by
  obtain ⟨f, fd, ps, F, hm, hk, hb⟩ := F
  refine ⟨fun pins s σ H Q I h => ?_⟩
  obtain ⟨mu, env, h, rel, p⟩ := h
  refine wpAny_Call_Name_kw (ld_glob I hg hm ?_ hdb)
  exact PySem.W.callWith_K0 I.kIn hk (run_fnS (us := []) (vs := []) (E := WE W) F hr hb (passAt tk σ) I .nil ⟨mu, [], h, rel.hr, .nil, p⟩)
end
/-- a def as it stands behind the top -/
def DefAt (K : PySem.W.Frag) (mg : Str → Option Value) (x : Str) (st : Stmt) (ps : List Str) : Prop := ∃ f fd, Fun K x x st f fd ∧ mg x = some (.ref f) ∧ Binds K fd ps []
theorem FnS.mk {P : Program} {w : World} {K : PySem.W.Frag} {mg : Str → Option Value} {base : Heap} {cl : Nat → Addr} {x : Str} {st : Stmt} {N ps : List Str} {k n : Nat} {m : MS} {mf : MF} (D : DefAt K mg x st ps) (S : FnScope N ps (defScope st))
    (hbody : ∀ (f : Addr) (cdv : Value) (A : Around) (outer : List Env) (s : Shared) (H : Hp) (E : XK), Room k (A.deeper (envOfC x (defScope st) s.heap.objs.size f cdv)) →
      SB (cxOf (L2.CX P w) P w K mg base N x (defScope st) f cdv A outer s H E) cl (fun c d _ H' => E c d H') (defBody st) m)
    (hn : ps.length = n := by rfl) (hf : mFn N.length m = mf := by rfl) :
    FnS P w K mg base cl (k + 1) x n mf := by
  subst hn hf
  obtain ⟨f, fd, F, hm, hb⟩ := D
  exact ⟨f, fd, ps, fn_ok F S fun cdv A outer s H E hr => hbody f cdv A outer s H E hr, hm, F.kp, hb⟩
/-! ### the law's end -/
theorem sp_end {K : PySem.W.Frag} {cl : Nat → Addr} {H : Hp} {a : Addr} {ns : List Int} {f : MF} (hO : Only H) (hS : SqL K H a (ns.map V.int)) (h : ∃ h', f [.sl (ns.map .int)] [] = .ok (.bl true) h') : spM K cl 1 f [.ref a] H (fun v _ => v = .bl true) (fun _ _ _ => False) := by
  obtain ⟨h', e⟩ := h
  have st : Stl K H a (ns.map V.int) := by
    rcases hS with (z | ⟨o, z⟩) | z
    · rcases hO a with q | ⟨o, xs, q⟩
      · rw [q] at z; cases z
      · rw [q] at z; cases z
    · exact .inl ⟨o, z⟩
    · exact .inr z
  have ra : ∀ ns : List Int, RpA K H [] (ns.map .int) (ns.map V.int) := by
    intro ns
    induction ns with
    | nil => exact .nil
    | cons n r ih => exact .cons (.int n) ih
  refine ⟨[], [.sl (ns.map .int)], [], ⟨rfl, by simp, fun n o a e1 _ => by simp at e1⟩, .one (.sl st (ra ns)), ?_⟩
  show Post _ _ _ _ _ _ _ (guard 1 f [.sl (ns.map .int)] []) _
  have : guard 1 f [.sl (ns.map .int)] [] = .ok (.bl true) h' := e
  rw [this]
  intro v H' mu' _ _ r
  cases r
  rfl
theorem cx_end {P : Program} {w : World} {H : Hp} {s s' : Shared} {e : Value} (h : L2.CX P w [] H s (fun _ _ _ => False) e s') : False := by
  obtain ⟨_, _, _, _, _, _, _, _, _, _, _, _, z⟩ := h
  exact z
end DS

set_option Elab.async false
set_option linter.all false
set_option maxRecDepth 100000
set_option maxHeartbeats 4000000
namespace DS
open PySem PySem.Spec PyProof.Rows L2
/-! ### the head: constants, tables, defs -/
/-- the value u, in the written part, is the data d -/
def okV (K : PySem.W.Frag) : Nat → D → Value → Bool
  | _, .non, .none => true
  | _, .bl b, .bool c => decide (b = c)
  | _, .int i, .int j _ => decide (i = j)
  | _, .str x, .str y _ => decide (x = y)
  | n + 1, .tup ds, .ref a => (match K.lookup a with
    | some ⟨.type c, _, .seq its _, _⟩ => decide (c = "tuple") && (decide (its.size ≤ sizeLine) && (decide (ds.length = its.toList.length) && (ds.zip its.toList).all fun q => okV K n q.1 q.2))
    | _ => false)
  | _, _, _ => false
theorem okV_ok {K : PySem.W.Frag} : ∀ (n : Nat) (d : D) (u : Value), okV K n d u = true → ∃ v, RelV v u ∧ ∀ H mu, Rp K H mu d v := by
  intro n
  induction n with
  | zero =>
    intro d u h
    cases d <;> cases u <;> simp only [okV, decide_eq_true_eq, Bool.false_eq_true] at h
    · exact ⟨.non, rfl, fun _ _ => .non⟩
    · subst h; exact ⟨.bl _, rfl, fun _ _ => .bl _⟩
    · subst h; exact ⟨.int _, ⟨_, rfl⟩, fun _ _ => .int _⟩
    · subst h; exact ⟨.str _, ⟨_, rfl⟩, fun _ _ => .str _⟩
  | succ n ih =>
    intro d u h
    have all : ∀ (ds : List D) (us : List Value), ds.length = us.length → ((ds.zip us).all fun q => okV K n q.1 q.2) = true → ∃ vs, Vals vs us ∧ ∀ H mu, RpA K H mu ds vs := by
      intro ds
      induction ds with
      | nil =>
        intro us hl _
        cases us with
        | nil => exact ⟨[], .nil, fun _ _ => .nil⟩
        | cons _ _ => cases hl
      | cons d ds ih2 =>
        intro us hl h
        cases us with
        | nil => cases hl
        | cons u us =>
          rw [List.zip_cons_cons, List.all_cons, Bool.and_eq_true] at h
          obtain ⟨v, rv, hv⟩ := ih d u h.1
          obtain ⟨vs, rvs, hvs⟩ := ih2 us (Nat.succ.inj hl) h.2
          exact ⟨v :: vs, .cons rv rvs, fun H mu => .cons (hv H mu) (hvs H mu)⟩
    cases d <;> cases u <;> simp only [okV, decide_eq_true_eq, Bool.false_eq_true] at h
    · exact ⟨.non, rfl, fun _ _ => .non⟩
    · subst h; exact ⟨.bl _, rfl, fun _ _ => .bl _⟩
    · subst h; exact ⟨.int _, ⟨_, rfl⟩, fun _ _ => .int _⟩
    · subst h; exact ⟨.str _, ⟨_, rfl⟩, fun _ _ => .str _⟩
    · rename_i ds a
      cases q : K.lookup a with
      | none => rw [q] at h; cases h
      | some o =>
        obtain ⟨oc, od, dt, osl⟩ := o
        rw [q] at h
        cases oc with
        | type c =>
          cases dt with
          | seq its n =>
            simp only [Bool.and_eq_true, decide_eq_true_eq] at h
            obtain ⟨h1, h2, h3, h4⟩ := h
            subst h1
            obtain ⟨vs, rvs, hvs⟩ := all ds its.toList h3 h4
            exact ⟨.ref a, rfl, fun H mu => .tup (.inr ⟨_, _, _, q, rfl, rfl, h2, rvs⟩) (hvs H mu)⟩
          | _ => cases h
        | _ => cases dt <;> cases h
def gcB (K : PySem.W.Frag) (x : Str) (d : D) : Bool := match PySem.W.nsIn K mainGlobals x with
  | some (some u) => okV K 6 d u
  | _ => false
theorem gcB_ok {K : PySem.W.Frag} {h : Heap} {mg : Str → Option Value} (X : K.In h) (G : h.Ns mainGlobals mg) {x : Str} {d : D} (c : gcB K x d = true) : GC K mg x d := by
  unfold gcB at c
  cases e : PySem.W.nsIn K mainGlobals x with
  | none => rw [e] at c; cases c
  | some o =>
    rw [e] at c
    cases o with
    | none => cases c
    | some u =>
      obtain ⟨v, r, hv⟩ := okV_ok _ _ _ c
      exact ⟨v, u, PySem.W.mg_of X G e, r, hv⟩
def ktB (K : PySem.W.Frag) (a : Addr) (tab : List (Str × D)) : Bool := tab.all fun q => match PySem.W.nsIn K a q.1 with
  | some (some u) => okV K 6 q.2 u
  | _ => false
theorem lookup_mem2 {z : Str} {d : D} : ∀ {tab : List (Str × D)}, tab.lookup z = some d → (z, d) ∈ tab
  | [], h => by cases h
  | (y, e) :: r, h => by
    have h2 : (match z == y with | true => some e | false => r.lookup z) = some d := h
    cases q : (z == y) with
    | true =>
      rw [q] at h2
      have e2 : e = d := Option.some.inj h2
      rw [beq_iff_eq.mp q, e2]
      exact List.mem_cons_self
    | false => rw [q] at h2; exact List.mem_cons_of_mem _ (lookup_mem2 h2)
theorem ktB_ok {K : PySem.W.Frag} {w : World} {h : Heap} {mg : Str → Option Value} (X : K.In h) (G : h.Ns mainGlobals mg) {x : Str} {tab : List (Str × D)} (g : (He.Fa.glo x).ok K = true) (kd : ∃ es n, KDict K w (He.ga K x) es n) (c : ktB K (He.ga K x) tab = true) : KTab K w mg x tab := by
  refine ⟨_, He.glo_ok X G g, fun z d e => ?_⟩
  obtain ⟨es, n, D⟩ := kd
  have h2 := List.all_eq_true.mp c _ (lookup_mem2 e)
  simp only at h2
  cases q : PySem.W.nsIn K (He.ga K x) z with
  | none => rw [q] at h2; cases h2
  | some o =>
    rw [q] at h2
    cases o with
    | none => cases h2
    | some u =>
      obtain ⟨v, r, hv⟩ := okV_ok _ _ _ h2
      exact ⟨v, ⟨es, n, u, D.at_, D.lit, q, r⟩, hv⟩
theorem fun_of {K : PySem.W.Frag} {x qual : Str} {st : Stmt} {f : Addr} {fd : FuncData} (F : FunD K x qual (defArgs st) (defBody st) (defScope st) [] [] f fd) : Fun K x qual st f fd := by
  obtain ⟨oc, od, dV, kV, doc, pm, an, cdv, ct, osl, rfl, lk, hcd, hD, hK⟩ := F.ex
  rcases hD with ⟨_, rfl⟩ | ⟨e, _⟩
  · exact ⟨⟨oc, od, kV, doc, pm, an, cdv, ct, osl, rfl, lk, hcd⟩, F.kp⟩
  · exact absurd rfl e
abbrev defD (x : Str) (st : Stmt) : He.DefD := ⟨(x, none), x, x, defArgs st, defBody st, defScope st, [], []⟩
theorem defAt_of {fa : List He.Fa} {fn : List He.DefD} {K : PySem.W.Frag} {h : Heap} {mg : Str → Option Value} (X : K.In h) (G : h.Ns mainGlobals mg) (c : He.SaysD fa fn K) {x : Str} {st : Stmt} {ps : List Str} (i j : Nat) (hi : fa[i]? = some (.glo x)) (hj : fn[j]? = some (defD x st))
    (hb : ∀ (kV doc pm : Value) (an : Option Addr) (cdv ct : Value) (us : List Value), us.length = ps.length → bindArgs (PySem.W.fnOf x x (defArgs st) (defBody st) (defScope st) .none kV doc pm an cdv ct) ⟨us, []⟩ = pure (ps.zip us)) : DefAt K mg x st ps := by
  obtain ⟨fd, F⟩ := c.def_ j hj
  exact ⟨_, fd, fun_of F, He.glo_ok X G (c.fact i hi), FunD.bindsN F hb⟩
theorem fn_okE {P : Program} {w : World} {K : PySem.W.Frag} {mg : Str → Option Value} {base : Heap} {cl : Nat → Addr} {x : Str} {st : Stmt} {N ps : List Str} {k n : Nat} {m : MS} {mf : MF} {f : Addr} {fd : FuncData} (F : Fun K x x st f fd) (S : FnScope N ps (defScope st))
    (hbody : ∀ (cdv : Value) (A : Around) (outer : List Env) (s : Shared) (H : Hp) (E : XK), Room k (A.deeper (envOfC x (defScope st) s.heap.objs.size f cdv)) →
      SB (cxOf (L2.CX P w) P w K mg base N x (defScope st) f cdv A outer s H E) cl (fun c d _ H' => E c d H') (defBody st) m)
    (hn : ps.length = n := by rfl) (hf : mFn N.length m = mf := by rfl) :
    FnOk P w K mg base (L2.CX P w) (k + 1) f fd ps (spM K cl n mf) := by
  subst hn hf
  exact fn_ok F S hbody
/-- walk_ofE, by a world -/
theorem walk_ofW {l : PySem.W.OpenLaw} {n k : Nat} {q : Program} {loose : List Str} {XP : (Str → Option Value) → Heap → Prop} {YP : World → Heap → Prop} {d : DefRec} {CX : World → CXT} {x : Str}
    (hn : l.most = some n) (hn2 : n ≤ sizeLine) (hdf : d.params.defaults = []) (hr : Room k callerA)
    (F : ∀ (w : World) (mg : Str → Option Value) (fa : Addr) (h : Heap), YP w h → h.Ns mainGlobals mg → mg d.name = some (.ref fa) →
      ∃ (K : PySem.W.Frag) (fd : FuncData) (sp : Sp), K.In h ∧ (∀ (s : Shared) (u : Value), BindsTo s fd ⟨[u], []⟩ [(x, u)]) ∧
        (∀ (H : Hp) (a : Addr) (ns : List Int), ns.length ≤ n → Only H → SqL K H a (ns.map V.int) → sp [.ref a] H (fun v _ => v = .bl true) fun _ _ _ => False) ∧
        ∀ base : Heap, K.In base → base.Ns mainGlobals mg → FnOk l.prog w K mg base (CX w) k fa fd [x] sp)
    (hCX : ∀ (w : World) (H : Hp) (s : Shared) (e : Value) (s' : Shared), CX w [] H s (fun _ _ _ => False) e s' → False) :
    PySem.W.WalkO q loose XP YP l.row.toRowW d [] (fun f vs => PySem.call f vs) := by
  refine Att.attach_call hn hdf fun w s₀ s₁ mg mb fa o pm cd doc a vs ns G Y ho hd hcd hmg hobj hints hlen hg => ?_
  obtain ⟨K, fd, sp, KX, hb, hsp, hF⟩ := F w mg fa _ Y G.T.g hmg
  exact law_call KX G.T.g G.T.b G.T.builtins G.T.nolimit hg hobj hints (Nat.le_trans hlen hn2) hr hF hb (fun H hO hS => hsp H a ns hlen hO hS) fun H e s' => hCX w H s₁ e s'
end DS

set_option Elab.async false
set_option linter.all false
set_option maxRecDepth 100000
set_option maxHeartbeats 4000000
/-! DSK: meanings evaluated: closed heaps, returns, loops, comprehensions. -/
namespace DS
open PySem
mutual
theorem dLow_mono {n m : Nat} (hm : n ≤ m) : ∀ {d : D}, dLow n d = true → dLow m d = true
  | .non, _ => rfl
  | .bl _, _ => rfl
  | .int _, _ => rfl
  | .str _, _ => rfl
  | .ref k, h => by
    simp only [dLow, decide_eq_true_eq] at h ⊢
    omega
  | .tup xs, h => by
    simp only [dLow] at h ⊢
    exact dLows_mono hm h
  | .sl xs, h => by
    simp only [dLow] at h ⊢
    exact dLows_mono hm h
theorem dLows_mono {n m : Nat} (hm : n ≤ m) : ∀ {ds : List D}, dLows n ds = true → dLows m ds = true
  | [], _ => rfl
  | d :: ds, h => by
    simp only [dLows, Bool.and_eq_true] at h ⊢
    exact ⟨dLow_mono hm h.1, dLows_mono hm h.2⟩
end
theorem oLow_mono {n m : Nat} (hm : n ≤ m) {o : O} (h : oLow n o = true) : oLow m o = true := by
  cases o <;> exact dLows_mono hm h
def Cl (h : Hs) : Prop := h.all (oLow h.length) = true
theorem Cl.nil : Cl [] := rfl
theorem Cl.add {h : Hs} {o : O} (hc : Cl h) (ho : oLow (h.length + 1) o = true) : Cl (h ++ [o]) := by
  unfold Cl at *
  simp only [List.all_append, List.all_cons, List.all_nil, Bool.and_true, Bool.and_eq_true, List.length_append, List.length_cons, List.length_nil, Nat.zero_add]
  refine ⟨?_, ho⟩
  rw [List.all_eq_true] at hc ⊢
  exact fun o ho => oLow_mono (Nat.le_succ _) (hc o ho)
theorem dLows_of {n : Nat} {ds : List D} : dLows n ds = ds.all (dLow n) := by
  induction ds with
  | nil => rfl
  | cons d r ih => simp only [dLows, List.all_cons, ih]
theorem low_lst {n : Nat} {ds : List D} (h : ∀ d ∈ ds, dLow n d = true) : oLow n (.lst ds) = true := by
  show dLows n ds = true
  rw [dLows_of, List.all_eq_true]
  exact h
theorem Cl.lst {h : Hs} (hc : Cl h) {ds : List D} (hd : ∀ d ∈ ds, dLow h.length d = true) : Cl (h ++ [.lst ds]) := hc.add (low_lst fun d hd' => dLow_mono (Nat.le_succ _) (hd d hd'))
/-! ### returns -/
theorem gc_low {h : Hs} {n : Nat} {r : Hs} {d : D} (hl : h.length = n) (hc : Cl h) (hd : dLow n d = true) : gcR n (.ok d (h ++ r)) = .ok d h := by
  subst hl
  have e : (h ++ r).take h.length = h := List.take_left
  simp only [gcR]
  rw [e, if_pos (show h.all (oLow h.length) = true from hc), if_pos hd]
theorem gc_low0 {h : Hs} {n : Nat} {d : D} (hl : h.length = n) (hc : Cl h) (hd : dLow n d = true) : gcR n (.ok d h) = .ok d h := by
  have := gc_low (r := []) hl hc hd
  rwa [List.append_nil] at this
theorem mFn_ret {N : Nat} {body : MS} {ds : List D} {h h1 r : Hs} {d : D} (hb : body (startE N ds) h = .ret d (h1 ++ r)) (hl : h1.length = h.length) (hc : Cl h1) (hd : dLow h.length d = true) : mFn N body ds h = .ok d h1 := by
  unfold mFn
  rw [hb]
  exact gc_low hl hc hd
theorem mFn_ret0 {N : Nat} {body : MS} {ds : List D} {h : Hs} {d : D} (hc : Cl h) (hb : body (startE N ds) h = .ret d h) (hd : dLow h.length d = true) : mFn N body ds h = .ok d h := by
  unfold mFn
  rw [hb]
  exact gc_low0 rfl hc hd
theorem mFn_new {N : Nat} {body : MS} {ds : List D} {h h1 r : Hs} {k : Nat} {o : O} (hb : body (startE N ds) h = .ret (.ref k) (h1 ++ r)) (hl : h1.length = h.length) (hc : Cl h1) (hk : h.length ≤ k) (ho : (h1 ++ r)[k]? = some o) (hw : oLow h.length o = true) : mFn N body ds h = .ok (.ref h.length) (h1 ++ [o]) := by
  unfold mFn
  rw [hb]
  show gcR h.length (.ok (.ref k) (h1 ++ r)) = _
  rw [← hl] at hk hw ⊢
  have e : (h1 ++ r).take h1.length = h1 := List.take_left
  simp only [gcR]
  rw [e, if_pos (show h1.all (oLow h1.length) = true from hc), if_neg (by simp only [dLow, decide_eq_true_eq]; omega)]
  simp only [ho]
  rw [if_pos (by rw [hw, Bool.true_and, decide_eq_true_eq]; exact hk)]
/-! ### bodies -/
theorem tidy_nx {clr : List Nat} {m : MS} {e e1 : En} {h h1 r : Hs} (hm : m e h = .nx e1 (h1 ++ r)) (hl : h1.length = h.length) (hc : Cl h1) (he : eLow h.length (wipeE e1 clr) = true) : sTidy clr m e h = .nx (wipeE e1 clr) h1 := by
  unfold sTidy tidyE
  rw [hm]
  rw [← hl] at he ⊢
  show RS.nx (if (eLow h1.length (wipeE e1 clr) && (((h1 ++ r).take h1.length).all (oLow h1.length))) = true then _ else _ : En × Hs).1 _ = _
  rw [List.take_left, if_pos (by rw [he, Bool.true_and]; exact hc)]
theorem tidy_ret {clr : List Nat} {m : MS} {e : En} {h h1 : Hs} {d : D} (hm : m e h = .ret d h1) : sTidy clr m e h = .ret d h1 := by
  unfold sTidy
  rw [hm]
/-! ### loops -/
theorem forGo_inv {it : Iter} {g : MG} {body : MS} (I : Nat → En → Hs → Prop) (n : Nat)
    (hs : ∀ i e h, i < n → I i e h → ∃ d e1 h1 e2 h2, it.get i h = some (some d) ∧ g d e h = .ok e1 h1 ∧ body e1 h1 = .nx e2 h2 ∧ I (i + 1) e2 h2)
    (hend : ∀ e h, I n e h → it.get n h = some none) : ∀ (k i : Nat) (e : En) (h : Hs), i + k = n → I i e h → ∃ e' h', forGo it g body k i e h = .nx e' h' ∧ I n e' h'
  | 0, i, e, h, hi, hI => by
    have : i = n := by omega
    subst this
    refine ⟨e, h, ?_, hI⟩
    unfold forGo
    rw [hend e h hI]
  | k + 1, i, e, h, hi, hI => by
    obtain ⟨d, e1, h1, e2, h2, q1, q2, q3, hI2⟩ := hs i e h (by omega) hI
    obtain ⟨e', h', r, hI'⟩ := forGo_inv I n hs hend k (i + 1) e2 h2 (by omega) hI2
    refine ⟨e', h', ?_, hI'⟩
    unfold forGo
    rw [q1]
    simp only [q2, q3]
    exact r
theorem forGo_run {it : Iter} {g : MG} {body : MS} (E : Nat → En) (H : Nat → Hs) (n : Nat)
    (hs : ∀ i, i < n → ∃ d e1 h1, it.get i (H i) = some (some d) ∧ g d (E i) (H i) = .ok e1 h1 ∧ body e1 h1 = .nx (E (i + 1)) (H (i + 1)))
    (hend : it.get n (H n) = some none) : forGo it g body n 0 (E 0) (H 0) = .nx (E n) (H n) := by
  obtain ⟨e', h', r, h1, h2⟩ := forGo_inv (it := it) (g := g) (body := body) (fun i e h => e = E i ∧ h = H i) n (fun i e h hi ⟨he, hh⟩ => by
    subst he hh
    obtain ⟨d, e1, h1, q1, q2, q3⟩ := hs i hi
    exact ⟨d, e1, h1, _, _, q1, q2, q3, rfl, rfl⟩) (fun e h ⟨_, hh⟩ => by rw [hh]; exact hend) n 0 (E 0) (H 0) (by omega) ⟨rfl, rfl⟩
  rw [r, h1, h2]
theorem rng_get {lo : Int} {n i : Nat} {h : Hs} (hi : i < n) : (Iter.rng lo n).get i h = some (some (.int (lo + i))) := by
  show (if i < n then _ else _) = _
  rw [if_pos hi]
theorem rng_end {lo : Int} {n : Nat} {h : Hs} : (Iter.rng lo n).get n h = some none := by
  show (if n < n then _ else _) = _
  rw [if_neg (Nat.lt_irrefl _), if_pos rfl]
/-- for x in range(n), the state by the index -/
theorem for_rng {mi : MI} {g : MG} {body : MS} {e : En} {h : Hs} {lo : Int} {n : Nat} (E : Nat → En) (H : Nat → Hs) (hm : mi e h = .ok (.rng lo n) h) (h0 : E 0 = e) (hh0 : H 0 = h)
    (hs : ∀ i, i < n → ∃ e1 h1, g (.int (lo + i)) (E i) (H i) = .ok e1 h1 ∧ body e1 h1 = .nx (E (i + 1)) (H (i + 1))) : sFor mi g body e h = .nx (E n) (H n) := by
  unfold sFor
  rw [hm]
  show forGo _ g body n 0 e h = _
  rw [← h0, ← hh0]
  exact forGo_run E H n (fun i hi => by
    obtain ⟨e1, h1, q⟩ := hs i hi
    exact ⟨_, e1, h1, rng_get hi, q⟩) rng_end
theorem for_rng_inv {mi : MI} {g : MG} {body : MS} {e : En} {h h0 : Hs} {lo : Int} {n : Nat} (I : Nat → En → Hs → Prop) (hm : mi e h = .ok (.rng lo n) h0) (hi0 : I 0 e h0)
    (hs : ∀ i e h, i < n → I i e h → ∃ e1 h1 e2 h2, g (.int (lo + i)) e h = .ok e1 h1 ∧ body e1 h1 = .nx e2 h2 ∧ I (i + 1) e2 h2) : ∃ e' h', sFor mi g body e h = .nx e' h' ∧ I n e' h' := by
  unfold sFor
  rw [hm]
  exact forGo_inv (it := .rng lo n) I n (fun i e h hi hI => by
    obtain ⟨e1, h1, e2, h2, q1, q2, q3⟩ := hs i e h hi hI
    exact ⟨_, e1, h1, e2, h2, rng_get hi, q1, q2, q3⟩) (fun e h hI => rng_end) n 0 e h0 (by omega) hi0
/-- for x in a tuple -/
theorem for_tup {mi : MI} {g : MG} {body : MS} {e : En} {h : Hs} {xs : List D} (E : Nat → En) (H : Nat → Hs) (hm : mi e h = .ok (.one (.st xs)) h) (h0 : E 0 = e) (hh0 : H 0 = h)
    (hs : ∀ (i : Nat) (d : D), xs[i]? = some d → ∃ e1 h1, g d (E i) (H i) = .ok e1 h1 ∧ body e1 h1 = .nx (E (i + 1)) (H (i + 1))) : sFor mi g body e h = .nx (E xs.length) (H xs.length) := by
  unfold sFor
  rw [hm]
  show forGo _ g body xs.length 0 e h = _
  rw [← h0, ← hh0]
  refine forGo_run E H xs.length (fun i hi => ?_) ?_
  · obtain ⟨e1, h1, q⟩ := hs i xs[i] (List.getElem?_eq_getElem hi)
    exact ⟨_, e1, h1, by show some xs[i]? = _; rw [List.getElem?_eq_getElem hi], q⟩
  · show some xs[xs.length]? = _
    rw [List.getElem?_eq_none (Nat.le_refl _)]
theorem for_enum {mi : MI} {g : MG} {body : MS} {e : En} {h : Hs} {xs : List D} (E : Nat → En) (H : Nat → Hs) (hm : mi e h = .ok (.enum (.st xs)) h) (h0 : E 0 = e) (hh0 : H 0 = h)
    (hs : ∀ (i : Nat) (d : D), xs[i]? = some d → ∃ e1 h1, g (.tup [.int i, d]) (E i) (H i) = .ok e1 h1 ∧ body e1 h1 = .nx (E (i + 1)) (H (i + 1))) : sFor mi g body e h = .nx (E xs.length) (H xs.length) := by
  unfold sFor
  rw [hm]
  show forGo _ g body xs.length 0 e h = _
  rw [← h0, ← hh0]
  refine forGo_run E H xs.length (fun i hi => ?_) ?_
  · obtain ⟨e1, h1, q⟩ := hs i xs[i] (List.getElem?_eq_getElem hi)
    exact ⟨_, e1, h1, by
      have q2 : (Src.st xs).get i (H i) = some (some xs[i]) := by show some xs[i]? = _; rw [List.getElem?_eq_getElem hi]
      simp only [Iter.get, q2], q⟩
  · have q2 : (Src.st xs).get xs.length (H xs.length) = some none := by show some xs[xs.length]? = _; rw [List.getElem?_eq_none (Nat.le_refl _)]
    simp only [Iter.get, q2]
    exact if_pos rfl
/-! ### comprehensions -/
theorem cpGo_run {it : Iter} {g : Tgt} {t : MT} {e : ME} {env : En} {h : Hs} {n : Nat} (T : Nat → Bool) (Y : Nat → D) (hn : n ≤ 1000)
    (hs : ∀ i, i < n → ∃ d e1, it.get i h = some (some d) ∧ g.put d env = some e1 ∧ t e1 h = .ok (T i) h ∧ (T i = true → gcR h.length (e e1 h) = .ok (Y i) h)) (hend : it.get n h = some none) :
    ∀ (k i : Nat) (acc : List D), i + k = n → acc.length ≤ i → cpGo it g t e env k i acc h = .ok (acc ++ (((List.range k).map (i + ·)).filter T).map Y) h
  | 0, i, acc, hi, ha => by
    have : i = n := by omega
    subst this
    unfold cpGo
    rw [hend]
    simp
  | k + 1, i, acc, hi, ha => by
    obtain ⟨d, e1, q1, q2, q3, q4⟩ := hs i (by omega)
    have key : (List.range (k + 1)).map (i + ·) = i :: (List.range k).map (i + 1 + ·) := by
      rw [List.range_succ_eq_map, List.map_cons, List.map_map]
      simp only [Nat.add_zero, List.cons.injEq, true_and]
      apply List.map_congr_left
      intro a _
      show i + (a + 1) = i + 1 + a
      omega
    rw [key]
    unfold cpGo
    rw [q1]
    simp only [q2, q3, R.nox, bind_ok]
    cases q : T i with
    | true =>
      simp only [if_true, q4 q, R.nox, bind_ok]
      have : acc.length < sizeLine := Nat.lt_of_le_of_lt (show acc.length ≤ 1000 by omega) (by decide)
      rw [if_pos this, cpGo_run T Y hn hs hend k (i + 1) (acc ++ [Y i]) (by omega) (by simp only [List.length_append, List.length_cons, List.length_nil]; omega)]
      rw [List.filter_cons_of_pos q, List.map_cons, List.append_assoc]
      rfl
    | false =>
      rw [if_neg (by decide), cpGo_run T Y hn hs hend k (i + 1) acc (by omega) (by omega), List.filter_cons_of_neg (by rw [q]; decide)]
theorem comp_run {vs : List Nat} {mi : MI} {g : Tgt} {t : MT} {e : ME} {env : En} {h : Hs} {it : Iter} {n : Nat} (T : Nat → Bool) (Y : Nat → D) (hm : mi env h = .ok it h) (hl : it.len h = n) (hn : n ≤ 1000)
    (hs : ∀ i, i < n → ∃ d e1, it.get i h = some (some d) ∧ g.put d (wipeE env vs) = some e1 ∧ t e1 h = .ok (T i) h ∧ (T i = true → gcR h.length (e e1 h) = .ok (Y i) h)) (hend : it.get n h = some none) :
    eComp vs mi g t e env h = .ok (.ref h.length) (h ++ [.lst (((List.range n).filter T).map Y)]) := by
  unfold eComp
  rw [hm]
  show (cpGo it g t e (wipeE env vs) (it.len h) 0 [] h).bind _ = _
  rw [hl, cpGo_run T Y hn hs hend n 0 [] (by omega) (Nat.le_refl _)]
  simp only [bind_ok, List.nil_append, Nat.zero_add, List.map_id']
theorem filter_true (n : Nat) : (List.range n).filter (fun _ => true) = List.range n := List.filter_eq_self.mpr fun _ _ => rfl
/-! ### while -/
theorem whGo_inv {t : MT} {body : MS} (I : Nat → En → Hs → Prop) (hs : ∀ i e h, I i e h → (∃ h1, t e h = .ok false h1 ∧ I 0 e h1) ∨ ∃ h1 e2 h2, t e h = .ok true h1 ∧ body e h1 = .nx e2 h2 ∧ ∃ j, j < i ∧ I j e2 h2) :
    ∀ (k i : Nat) (e : En) (h : Hs), i < k → I i e h → ∃ e' h', whGo t body k e h = .nx e' h' ∧ I 0 e' h'
  | 0, _, _, _, hi, _ => by omega
  | k + 1, i, e, h, hi, hI => by
    rcases hs i e h hI with ⟨h1, q, hI1⟩ | ⟨h1, e2, h2, q1, q2, j, hj, hI2⟩
    · refine ⟨e, h1, ?_, hI1⟩
      unfold whGo
      rw [q]
      rfl
    · obtain ⟨e', h', r, hI'⟩ := whGo_inv I hs k j e2 h2 (by omega) hI2
      refine ⟨e', h', ?_, hI'⟩
      unfold whGo
      rw [q1]
      simp only [ofR_ok, if_true, q2]
      exact r
end DS

set_option Elab.async false
set_option linter.all false
set_option maxRecDepth 100000
set_option maxHeartbeats 4000000
/-! DSL: the laws' draws (alike in all of them). -/
namespace DS
open PySem
def dMixedB : MS :=
    (sSeq (sSet 0 (eOp2 vMod (eOpN vInt (aCons (eVar 0) aNil)) (eC (.int 2147483647))))
    (sRet (eOp2 vMod (eOp2 vMul (eOp2 vMod (eOp2 vAdd (eOp2 vAdd (eOp2 vMul (eVar 0) (eOp2 vAdd (eC (.int 48271)) (eOp2 vMul (eOp2 vMul (eC (.int 2)) (eVar 1)) (eVar 1)))) (eOp2 vMul (eC (.int 69621)) (eVar 1))) (eC (.int 11))) (eC (.int 2147483647))) (eC (.int 69621))) (eC (.int 2147483629)))))
def dMixed : MF := mFn 2 dMixedB
def dBeginB : MS :=
    (sSeq (sSet 1 (eIfM (tsB (eOp2 vNe (eVar 0) (eOpN vLst aNil))) (eOpN vList (aCons (eVar 0) aNil)) (eOpN vLst (aCons (eC (.int 0)) aNil))))
    (sRet (eDict [((eC (.str "cells")), (eVar 1)), ((eC (.str "lefts")), (eComp [2] (iSeq (eVar 1)) (.nm 2) tTrue (eIfM (tsB (eOp2 vGe (eVar 2) (eOp2 vPow (eC (.int 10)) (eC (.int 18))))) (eVar 2) (eC (.int 0))))), ((eC (.str "at")), (eC (.int 0))), ((eC (.str "room")), (eC (.int 0)))])))
def dBegin : MF := mFn 3 dBeginB
def dDrawB : MS :=
    (sSeq (sSet 2 (eOp2 vDGet (eVar 0) (eC (.str "at"))))
    (sSeq (sPut vDPut (eOp2 vAdd (eVar 2) (eC (.int 1))) (eVar 0) (eC (.str "at")))
    (sSeq (sSet 3 (eOp2 vMod (eOpN vInt (aCons (eVar 2) aNil)) (eOpN vLen (aCons (eOp2 vDGet (eVar 0) (eC (.str "cells"))) aNil))))
    (sSeq (sSet 4 (eOp2 vIx (eOp2 vDGet (eVar 0) (eC (.str "lefts"))) (eVar 3)))
    (sSeq (sIf (tsB (eOp2 vGt (eVar 4) (eC (.int 0)))) (sSeq (sPut vLPut (eOp2 vFdiv (eVar 4) (eVar 1)) (eOp2 vDGet (eVar 0) (eC (.str "lefts"))) (eVar 3))
    (sRet (eOp2 vMod (eOpN vInt (aCons (eVar 4) aNil)) (eVar 1)))) sPass)
    (sSeq (sSet 5 (eCall 2 dMixed (aCons (eCall 2 dMixed (aCons (eOp2 vIx (eOp2 vDGet (eVar 0) (eC (.str "cells"))) (eVar 3)) (aCons (eVar 2) aNil))) (aCons (eOp2 vAdd (eC (.int 40)) (eVar 2)) aNil))))
    (sRet (eOp2 vMod (eOp2 vFdiv (eOpN vInt (aCons (eOp2 vAdd (eOp2 vMul (eVar 5) (eC (.int 2147483647))) (eCall 2 dMixed (aCons (eVar 5) (aCons (eOp2 vAdd (eC (.int 7)) (eVar 2)) aNil)))) aNil)) (eC (.int 64))) (eVar 1)))))))))
def dDraw : MF := mFn 6 dDrawB
def dOfB : MS :=
    (sRet (eOp2 vIx (eVar 1) (eCall 2 dDraw (aCons (eVar 0) (aCons (eOpN vLen (aCons (eVar 1) aNil)) aNil)))))
def dOf : MF := mFn 2 dOfB
/-! ### the state -/
structure S where
  cs : List Int
  ls : List Int
  a : Int
def S.hp (s : S) : Hs := [.lst [], .lst (s.cs.map .int), .lst (s.ls.map .int), .dct [(.inr "cells", .ref 1), (.inr "lefts", .ref 2), (.inr "at", .int s.a), (.inr "room", .int 0)]]
/-- room for m draws more -/
structure S.ok (s : S) (m : Nat) : Prop where
  len : s.cs.length = s.ls.length
  pos : 0 < s.cs.length
  few : s.cs.length ≤ 63
  low : 0 ≤ s.a
  top : s.a + m ≤ 1000000000
theorem S.ok.mono {s : S} {m n : Nat} (h : s.ok m) (hn : n ≤ m) : s.ok n := ⟨h.len, h.pos, h.few, h.low, by have := h.top; omega⟩
theorem ints_low {n : Nat} {ns : List Int} : dLows n (ns.map .int) = true := by
  rw [dLows_of, List.all_eq_true]
  intro d hd
  obtain ⟨i, _, rfl⟩ := List.mem_map.mp hd
  rfl
theorem S.hp_low (s : S) {n : Nat} (hn : 4 ≤ n) : s.hp.all (oLow n) = true := by
  unfold S.hp
  simp only [List.all_cons, List.all_nil, oLow, ints_low, dLows, dLow, List.map_cons, List.map_nil, Bool.true_and, Bool.and_true, Bool.and_eq_true, decide_eq_true_eq]
  omega
theorem S.cl (s s' : S) {r : Hs} (h : Cl (s.hp ++ r)) : Cl (s'.hp ++ r) := by
  unfold Cl at *
  have e : (s'.hp ++ r).length = (s.hp ++ r).length := by simp [S.hp]
  rw [e]
  rw [List.all_append, Bool.and_eq_true] at h ⊢
  exact ⟨s'.hp_low (by simp [S.hp]), h.2⟩
theorem S.cl0 (s : S) : Cl s.hp := s.hp_low (Nat.le_refl _)
/-! ### mixing -/
def mix (c k : Int) : Int := (c % 2147483647 * (48271 + 2 * k * k) + 69621 * k + 11) % 2147483647 * 69621 % 2147483629
theorem mulOk_l {i j : Int} (h0 : 0 ≤ i) (h1 : i < 2 ^ 64) : mulOk i j = true := by
  unfold mulOk
  rw [Bool.or_eq_true]
  exact .inl (Nat.ble_eq_true_of_le (by omega))
theorem mulOk_r {i j : Int} (h0 : 0 ≤ j) (h1 : j < 2 ^ 64) : mulOk i j = true := by
  unfold mulOk
  rw [Bool.or_eq_true]
  exact .inr (Nat.ble_eq_true_of_le (by omega))
theorem vMul_ok {i j : Int} {h : Hs} (q : mulOk i j = true) : vMul (.int i) (.int j) h = some (.int (i * j), h) := by
  show (if mulOk i j = true then _ else _) = _
  rw [if_pos q]
theorem vMod_ok {i j : Int} {h : Hs} (q : 0 < j) : vMod (.int i) (.int j) h = some (.int (i % j), h) := by
  show (if 0 < j then _ else _) = _
  rw [if_pos q]
theorem vFdiv_ok {i j : Int} {h : Hs} (q : 0 < j) (q2 : j < 1073741824) : vFdiv (.int i) (.int j) h = some (.int (i / j), h) := by
  show (if (decide (0 < j) && Nat.ble j.natAbs 1073741823) = true then _ else _) = _
  rw [if_pos (by rw [decide_eq_true q, Bool.true_and]; exact Nat.ble_eq_true_of_le (by omega))]
theorem vAdd_int {i j : Int} {h : Hs} : vAdd (.int i) (.int j) h = some (.int (i + j), h) := rfl
theorem vSub_int {i j : Int} {h : Hs} : vSub (.int i) (.int j) h = some (.int (i - j), h) := rfl
theorem vInt_int {i : Int} {h : Hs} : vInt [.int i] h = some (.int i, h) := rfl
theorem vGt_int {i j : Int} {h : Hs} : vGt (.int i) (.int j) h = some (.bl (decide (i > j)), h) := rfl
theorem mixed_eq {c k : Int} {h : Hs} (hc : Cl h) (k0 : 0 ≤ k) (k1 : k < 2 ^ 40) : dMixed [.int c, .int k] h = .ok (.int (mix c k)) h := by
  refine mFn_ret0 hc ?_ rfl
  have p : (2 : Int) ^ 40 < 2 ^ 64 := by decide
  have m1 : mulOk 2 k = true := mulOk_l (by decide) (by decide)
  have m2 : mulOk (2 * k) k = true := mulOk_r k0 (by omega)
  have c0 := Int.emod_nonneg c (show (2147483647 : Int) ≠ 0 by decide)
  have c1 := Int.emod_lt_of_pos c (show (0 : Int) < 2147483647 by decide)
  have p2 : (2147483647 : Int) < 2 ^ 64 := by decide
  have m3 : mulOk (c % 2147483647) (48271 + 2 * k * k) = true := mulOk_l c0 (by omega)
  have m4 : mulOk 69621 k = true := mulOk_l (by decide) (by decide)
  have m5 : ∀ x, mulOk x 69621 = true := fun x => mulOk_r (by decide) (by decide)
  show dMixedB [some (.int c), some (.int k)] h = _
  simp only [dMixedB, sSeq, sSet, sRet, eOp2, eOpN, aCons, aNil, eVar, eC, vInt_int, bind_ok, lft_some, ofR_ok, List.map_cons, List.map_nil, List.length_cons, List.length_nil, List.replicate, List.append_nil, List.getElem?_cons_zero, List.getElem?_cons_succ, List.set_cons_zero, vMod_ok (show (0 : Int) < 2147483647 by decide), vMod_ok (show (0 : Int) < 2147483629 by decide), vMul_ok m1, vMul_ok m2, vMul_ok m3, vMul_ok m4, vMul_ok (m5 _), vAdd_int, mix]
theorem mix_lo (c k : Int) : 0 ≤ mix c k := Int.emod_nonneg _ (by decide)
/-! ### a draw -/
def S.place (s : S) : Nat := (s.a % s.cs.length).toNat
def S.left (s : S) : Int := s.ls.getD s.place 0
def S.cell (s : S) : Int := s.cs.getD s.place 0
def S.num (s : S) : Int := mix (mix s.cell s.a) (40 + s.a)
def S.val (s : S) (m : Int) : Int := if 0 < s.left then s.left % m else (s.num * 2147483647 + mix s.num (7 + s.a)) / 64 % m
def S.next (s : S) (m : Int) : S := { s with a := s.a + 1, ls := if 0 < s.left then s.ls.set s.place (s.left / m) else s.ls }
theorem S.val_lo (s : S) {m : Int} (hm : 0 < m) : 0 ≤ s.val m := by
  unfold S.val
  split <;> exact Int.emod_nonneg _ (by omega)
theorem S.val_hi (s : S) {m : Int} (hm : 0 < m) : s.val m < m := by
  unfold S.val
  split <;> exact Int.emod_lt_of_pos _ hm
theorem S.next_ok {s : S} {n : Nat} (h : s.ok (n + 1)) (m : Int) : (s.next m).ok n := by
  obtain ⟨h1, h2, h3, h4, h5⟩ := h
  refine ⟨?_, h2, h3, ?_, ?_⟩
  · show s.cs.length = (if 0 < s.left then s.ls.set s.place (s.left / m) else s.ls).length
    split
    · rw [List.length_set]; exact h1
    · exact h1
  · show 0 ≤ s.a + 1
    omega
  · show s.a + 1 + n ≤ 1000000000
    have : ((n + 1 : Nat) : Int) = n + 1 := by omega
    omega
theorem atI_nat {α : Type} {xs : List α} {i : Nat} (h : i < xs.length) : L2.atI xs (i : Int) = some xs[i] := by
  unfold L2.atI L2.ixN
  rw [if_pos (by omega), if_pos (by omega)]
  show xs[(i : Int).toNat]? = _
  rw [Int.toNat_natCast, List.getElem?_eq_getElem h]
theorem atI_int {α : Type} {xs : List α} {i : Int} (h0 : 0 ≤ i) (h : i < xs.length) : L2.atI xs i = some (xs[i.toNat]'(by omega)) := by
  have e : i = (i.toNat : Int) := by omega
  have k := atI_nat (xs := xs) (i := i.toNat) (by omega)
  rw [← e] at k
  exact k
theorem S.place_lt {s : S} {n : Nat} (h : s.ok n) : s.place < s.cs.length := by
  unfold S.place
  have h1 := Int.emod_lt_of_pos s.a (show (0 : Int) < s.cs.length by have := h.pos; omega)
  have h2 := Int.emod_nonneg s.a (show (s.cs.length : Int) ≠ 0 by have := h.pos; omega)
  omega
theorem S.place_eq {s : S} {n : Nat} (h : s.ok n) : s.a % s.cs.length = (s.place : Int) := by
  unfold S.place
  have := Int.emod_nonneg s.a (show (s.cs.length : Int) ≠ 0 by have := h.pos; omega)
  omega
theorem draw_eq {s : S} {r : Hs} {m : Int} (hs : s.ok 1) (hc : Cl (s.hp ++ r)) (hm : 0 < m) (hm2 : m < 1073741824) : dDraw [.ref 3, .int m] (s.hp ++ r) = .ok (.int (s.val m)) ((s.next m).hp ++ r) := by
  refine mFn_ret (r := []) ?_ (by simp [S.hp]) (S.cl s _ hc) rfl
  rw [List.append_nil]
  have hp := S.place_lt hs
  have hpl : s.place < s.ls.length := by have := hs.len; omega
  have ec : L2.atI (s.cs.map D.int) (s.a % s.cs.length) = some (.int s.cell) := by
    rw [S.place_eq hs, atI_nat (by rw [List.length_map]; exact hp), List.getElem_map]
    unfold S.cell
    rw [List.getD_eq_getElem?_getD, List.getElem?_eq_getElem hp]; rfl
  have el : L2.atI (s.ls.map D.int) (s.a % s.cs.length) = some (.int s.left) := by
    rw [S.place_eq hs, atI_nat (by rw [List.length_map]; exact hpl), List.getElem_map]
    unfold S.left
    rw [List.getD_eq_getElem?_getD, List.getElem?_eq_getElem hpl]; rfl
  have a1 : Cl (({ s with a := s.a + 1 } : S).hp ++ r) := S.cl s _ hc
  have t := hs.top
  have l := hs.low
  have p40 : (1000000000 : Int) + 100 < 2 ^ 40 := by decide
  have x1 := fun c => mixed_eq (c := c) (k := s.a) a1 l (by omega)
  have x2 := fun c => mixed_eq (c := c) (k := 40 + s.a) a1 (by omega) (by omega)
  have x3 := fun c => mixed_eq (c := c) (k := 7 + s.a) a1 (by omega) (by omega)
  have n0 : (0 : Int) < s.cs.length := by have := hs.pos; omega
  have g1 : (s.hp ++ r)[3]? = some (.dct [(.inr "cells", .ref 1), (.inr "lefts", .ref 2), (.inr "at", .int s.a), (.inr "room", .int 0)]) := rfl
  have q1 : vDGet (.ref 3) (.str "at") (s.hp ++ r) = some (.int s.a, s.hp ++ r) := rfl
  have q2 : vDPut (.ref 3) (.str "at") (.int (s.a + 1)) (s.hp ++ r) = some (({ s with a := s.a + 1 } : S).hp ++ r) := rfl
  generalize hh : (({ s with a := s.a + 1 } : S).hp ++ r) = h1 at *
  have q3 : vDGet (.ref 3) (.str "cells") h1 = some (.ref 1, h1) := by subst hh; rfl
  have q4 : vDGet (.ref 3) (.str "lefts") h1 = some (.ref 2, h1) := by subst hh; rfl
  have q5 : vLen [.ref 1] h1 = some (.int s.cs.length, h1) := by
    subst hh
    show some (D.int ((s.cs.map D.int).length : Nat), _) = _
    rw [List.length_map]
  have q6 : vIx (.ref 2) (.int (s.a % s.cs.length)) h1 = some (.int s.left, h1) := by
    subst hh
    show (L2.atI (s.ls.map D.int) _).map _ = _
    rw [el]; rfl
  have q7 : vIx (.ref 1) (.int (s.a % s.cs.length)) h1 = some (.int s.cell, h1) := by
    subst hh
    show (L2.atI (s.cs.map D.int) _).map _ = _
    rw [ec]; rfl
  have m6 : ∀ x, mulOk x 2147483647 = true := fun x => mulOk_r (by decide) (by decide)
  by_cases hp0 : 0 < s.left
  · have q8 : vLPut (.ref 2) (.int (s.a % s.cs.length)) (.int (s.left / m)) h1 = some ((s.next m).hp ++ r) := by
      subst hh
      show (L2.ixN (s.ls.map D.int).length (s.a % s.cs.length)).map _ = _
      rw [S.place_eq hs, L2.ixN, if_pos (by omega), if_pos (by rw [List.length_map]; omega), Int.toNat_natCast]
      show some _ = some _
      unfold S.next
      rw [if_pos hp0]
      simp only [S.hp, List.map_set]
      rfl
    show dDrawB [some (.ref 3), some (.int m), none, none, none, none] (s.hp ++ r) = _
    simp only [dDrawB, sSeq, sSet, sPut, sRet, sIf, sPass, tsB, eOp2, eOpN, eCall, guard, aCons, aNil, eVar, eC, vInt_int, bind_ok, lft_some, ofR_ok, List.map_cons, List.map_nil, List.length_cons, List.length_nil, List.replicate, List.append_nil, List.nil_append, List.cons_append, List.getElem?_cons_zero, List.getElem?_cons_succ, List.set_cons_zero, List.set_cons_succ, q1, q2, q3, q4, q5, q6, q7, q8, vMod_ok n0, vAdd_int, vGt_int, decide_eq_true hp0, if_true, vFdiv_ok hm hm2, vMod_ok hm]
    unfold S.val
    rw [if_pos hp0]
  · have hn : (s.next m).hp ++ r = h1 := by
      subst hh
      unfold S.next
      rw [if_neg hp0]
    rw [hn]
    show dDrawB [some (.ref 3), some (.int m), none, none, none, none] (s.hp ++ r) = _
    simp only [dDrawB, sSeq, sSet, sPut, sRet, sIf, sPass, tsB, eOp2, eOpN, eCall, guard, aCons, aNil, eVar, eC, vInt_int, bind_ok, lft_some, ofR_ok, List.map_cons, List.map_nil, List.length_cons, List.length_nil, List.replicate, List.append_nil, List.nil_append, List.cons_append, List.getElem?_cons_zero, List.getElem?_cons_succ, List.set_cons_zero, List.set_cons_succ, q1, q2, q3, q4, q5, q6, q7, vMod_ok n0, vAdd_int, vGt_int, decide_eq_false hp0, Bool.false_eq_true, if_false, if_true, x1, x2, x3, vMul_ok (m6 _), vFdiv_ok (show (0 : Int) < 64 by decide) (by decide), vMod_ok hm]
    unfold S.val
    rw [if_neg hp0]
    rfl
theorem of_eq {s : S} {r : Hs} {k : Nat} {xs : List D} (hs : s.ok 1) (hc : Cl (s.hp ++ r)) (hk : 4 ≤ k) (hx : r[k - 4]? = some (.lst xs)) (h0 : 0 < xs.length) (h1 : xs.length < 1073741824) (hl : ∀ d ∈ xs, dLow (s.hp ++ r).length d = true) :
    ∃ d, xs[(s.val xs.length).toNat]? = some d ∧ dOf [.ref 3, .ref k] (s.hp ++ r) = .ok d ((s.next xs.length).hp ++ r) := by
  have v0 := s.val_lo (m := xs.length) (by omega)
  have v1 := s.val_hi (m := xs.length) (by omega)
  have hv : (s.val xs.length).toNat < xs.length := by omega
  refine ⟨xs[(s.val xs.length).toNat], List.getElem?_eq_getElem hv, ?_⟩
  have hg : ∀ s : S, (s.hp ++ r)[k]? = some (.lst xs) := fun s => by
    rw [List.getElem?_append_right (by simp [S.hp]; omega)]
    exact hx
  refine mFn_ret (r := []) ?_ (by simp [S.hp]) (S.cl s _ hc) (hl _ (List.getElem_mem hv))
  rw [List.append_nil]
  show dOfB [some (.ref 3), some (.ref k)] (s.hp ++ r) = _
  have q1 : vLen [.ref k] (s.hp ++ r) = some (.int xs.length, s.hp ++ r) := by
    simp only [vLen, seqOf, hg]
  have q2 : vIx (.ref k) (.int (s.val xs.length)) ((s.next xs.length).hp ++ r) = some (xs[(s.val xs.length).toNat], (s.next xs.length).hp ++ r) := by
    simp only [vIx, seqOf, hg, atI_int v0 v1, Option.map_some]
  simp only [dOfB, sRet, eOp2, eOpN, eCall, guard, aCons, aNil, eVar, eC, bind_ok, lft_some, ofR_ok, List.length_cons, List.length_nil, List.getElem?_cons_zero, List.getElem?_cons_succ, q1, draw_eq hs hc (show (0 : Int) < xs.length by omega) (by omega), q2, if_true]
def S.init (ns : List Int) : S := { cs := if ns = [] then [0] else ns, ls := (if ns = [] then [0] else ns).map fun c => if c ≥ 10 ^ 18 then c else 0, a := 0 }
theorem S.init_ok {ns : List Int} (h : ns.length ≤ 63) : (S.init ns).ok 1000000 := by
  unfold S.init
  refine ⟨by simp, ?_, ?_, Int.le_refl _, by show (0 : Int) + ((1000000 : Nat) : Int) ≤ 1000000000; decide⟩
  · show 0 < (if ns = [] then [0] else ns).length
    split
    · decide
    · rename_i h; exact List.length_pos_iff.mpr h
  · show (if ns = [] then [0] else ns).length ≤ 63
    split
    · decide
    · exact h
theorem okN_ints {n : Nat} {ns : List Int} : (ns.map D.int).all (okN n) = true := by
  rw [List.all_eq_true]
  intro d hd
  obtain ⟨i, _, rfl⟩ := List.mem_map.mp hd
  cases n <;> rfl
theorem begin_eq {ns : List Int} (h : ns.length ≤ 63) : dBegin [.sl (ns.map .int)] [] = .ok (.ref 3) (S.init ns).hp := by
  have e1 : vNe (.sl (ns.map D.int)) (.ref 0) [.lst []] = some (.bl (!(decide (ns = []))), [.lst []]) := by
    show (eqH (.sl (ns.map D.int)) (.ref 0) [.lst []]).map _ = _
    have : eqH (.sl (ns.map D.int)) (.ref 0) [.lst []] = some (decide (ns = [])) := by
      show (if ((ns.map D.int).all (okN 29) && ([] : List D).all (okN 29)) = true then some (eqA (ns.map D.int) []) else none) = _
      rw [okN_ints]
      cases ns <;> rfl
    rw [this]
    rfl
  have hb : dBeginB [some (.sl (ns.map .int)), none, none] [] = .ret (.ref 3) (S.init ns).hp := by
    have key : ∀ cs : List Int, cs.length ≤ 63 → eComp [2] (iSeq (eVar 1)) (.nm 2) tTrue (eIfM (tsB (eOp2 vGe (eVar 2) (eOp2 vPow (eC (.int 10)) (eC (.int 18))))) (eVar 2) (eC (.int 0))) [some (.sl (ns.map .int)), some (.ref 1), none] [.lst [], .lst (cs.map .int)]
        = .ok (.ref 2) [.lst [], .lst (cs.map .int), .lst ((cs.map fun c => if c ≥ 10 ^ 18 then c else 0).map .int)] := by
      intro cs hcs
      have hcl : Cl [.lst [], .lst (cs.map D.int)] := by
        show (List.all _ _) = true
        simp only [List.all_cons, List.all_nil, oLow, ints_low, dLows, Bool.and_true]
      rw [comp_run (it := .one (.lv 1)) (n := cs.length) (fun _ => true) (fun i => .int (if cs.getD i 0 ≥ 10 ^ 18 then cs.getD i 0 else 0)) rfl (by show (cs.map D.int).length = _; rw [List.length_map]) (by omega) ?_ ?_]
      · rw [filter_true]
        congr 1
        show [O.lst [], O.lst (cs.map D.int), O.lst _] = _
        congr 4
        apply List.ext_getElem
        · simp
        · intro i h1 h2
          simp only [List.getElem_map, List.getElem_range]
          have : i < cs.length := by simpa using h1
          rw [List.getD_eq_getElem?_getD, List.getElem?_eq_getElem this]
          rfl
      · intro i hi
        refine ⟨.int cs[i], [some (.sl (ns.map .int)), some (.ref 1), some (.int cs[i])], ?_, rfl, rfl, fun _ => ?_⟩
        · show some ((cs.map D.int)[i]?) = _
          rw [List.getElem?_map, List.getElem?_eq_getElem hi]
          rfl
        · have e2 : (eIfM (tsB (eOp2 vGe (eVar 2) (eOp2 vPow (eC (.int 10)) (eC (.int 18))))) (eVar 2) (eC (.int 0))) [some (.sl (ns.map .int)), some (.ref 1), some (.int cs[i])] [.lst [], .lst (cs.map D.int)] = .ok (.int (if cs[i] ≥ 10 ^ 18 then cs[i] else 0)) [.lst [], .lst (cs.map D.int)] := by
            have p : vPow (.int 10) (.int 18) [.lst [], .lst (cs.map D.int)] = some (.int (10 ^ 18), [.lst [], .lst (cs.map D.int)]) := by
              show (if (0 ≤ (18 : Int) ∧ (18 : Int) ≤ 1000000 ∧ (10 : Int).natAbs < 2 ^ 64) then some (D.int ((10 : Int) ^ (18 : Int).toNat), [O.lst [], O.lst (cs.map D.int)]) else none) = _
              rw [if_pos (by decide)]
              rfl
            have g : vGe (.int cs[i]) (.int (10 ^ 18)) [.lst [], .lst (cs.map D.int)] = some (.bl (decide (cs[i] ≥ 10 ^ 18)), [.lst [], .lst (cs.map D.int)]) := rfl
            simp only [eIfM, tsB, eOp2, eVar, eC, bind_ok, lft_some, List.getElem?_cons_zero, List.getElem?_cons_succ, p, g]
            by_cases q : cs[i] ≥ 10 ^ 18
            · rw [decide_eq_true q, if_pos rfl, if_pos q]
            · rw [decide_eq_false q, if_neg (by decide), if_neg q]
          rw [e2, gc_low0 rfl hcl rfl, List.getD_eq_getElem?_getD, List.getElem?_eq_getElem hi]
          rfl
      · show some ((cs.map D.int)[cs.length]?) = _
        rw [List.getElem?_eq_none (by simp)]
    have v0 : vLst [] [] = some (.ref 0, [.lst []]) := rfl
    by_cases hn : ns = []
    · have k := key [0] (by decide)
      simp only [dBeginB, sSeq, sSet, sRet, eIfM, tsB, eOp2, eOpN, aCons, aNil, eVar, eC, bind_ok, lft_some, ofR_ok, List.getElem?_cons_zero, List.getElem?_cons_succ, List.set_cons_zero, List.set_cons_succ, v0, e1, decide_eq_true hn, Bool.not_true, Bool.false_eq_true, if_false]
      have v1 : vLst [.int 0] [.lst []] = some (.ref 1, [.lst [], .lst [.int 0]]) := rfl
      have k2 : eComp [2] (iSeq (eVar 1)) (.nm 2) tTrue (eIfM (tsB (eOp2 vGe (eVar 2) (eOp2 vPow (eC (.int 10)) (eC (.int 18))))) (eVar 2) (eC (.int 0))) [some (.sl (ns.map .int)), some (.ref 1), none] [.lst [], .lst [.int 0]] = _ := k
      simp only [v1, lft_some, ofR_ok, List.set_cons_zero, List.set_cons_succ, eDict, ePairs, eVar, eC, bind_ok, List.getElem?_cons_zero, List.getElem?_cons_succ]
      rw [k2]
      subst hn
      rfl
    · have k := key ns h
      have v1 : vList [.sl (ns.map D.int)] [.lst []] = some (.ref 1, [.lst [], .lst (ns.map D.int)]) := rfl
      simp only [dBeginB, sSeq, sSet, sRet, eIfM, tsB, eOp2, eOpN, aCons, aNil, eVar, eC, bind_ok, lft_some, ofR_ok, List.getElem?_cons_zero, List.getElem?_cons_succ, List.set_cons_zero, List.set_cons_succ, v0, v1, e1, decide_eq_false hn, Bool.not_false, if_true, eDict, ePairs]
      rw [k]
      simp only [S.init, if_neg hn]
      rfl
  unfold dBegin mFn
  show gcR 0 (outR (dBeginB [some (.sl (ns.map .int)), none, none] [])) = _
  rw [hb]
  rfl
end DS

set_option Elab.async false
set_option linter.all false
set_option maxRecDepth 100000
set_option maxHeartbeats 4000000
/-! DSM: loops over known items; heaps s.hp ++ r. -/
namespace DS
open PySem
/-- the loop over known items -/
def forL (g : MG) (body : MS) : List D → En → Hs → RS
  | [], e, h => .nx e h
  | d :: ds, e, h => match g d e h with
    | .ok e1 h1 => match body e1 h1 with
      | .nx e2 h2 => forL g body ds e2 h2
      | .ct e2 h2 => forL g body ds e2 h2
      | .bk e2 h2 => .nx e2 h2
      | r => r
    | _ => .bad
theorem forGo_L {it : Iter} {g : MG} {body : MS} {xs : List D} (hget : ∀ i h, i ≤ xs.length → it.get i h = some xs[i]?) : ∀ (k i : Nat) (e : En) (h : Hs), i + k = xs.length → forGo it g body k i e h = forL g body (xs.drop i) e h
  | 0, i, e, h, hi => by
    have : i = xs.length := by omega
    subst this
    unfold forGo
    rw [hget _ _ (Nat.le_refl _), List.getElem?_eq_none (Nat.le_refl _), List.drop_length]
    rfl
  | k + 1, i, e, h, hi => by
    have hlt : i < xs.length := by omega
    unfold forGo
    rw [hget _ _ (Nat.le_of_lt hlt), List.getElem?_eq_getElem hlt, List.drop_eq_getElem_cons hlt]
    show (match g xs[i] e h with | _ => _) = _
    unfold forL
    cases g xs[i] e h with
    | ok e1 h1 =>
      show (match body e1 h1 with | _ => _) = (match body e1 h1 with | _ => _)
      cases body e1 h1 with
      | nx e2 h2 => exact forGo_L hget k (i + 1) e2 h2 (by omega)
      | ct e2 h2 => exact forGo_L hget k (i + 1) e2 h2 (by omega)
      | bk e2 h2 => rfl
      | ret d h2 => rfl
      | exc x e2 h2 => rfl
      | bad => rfl
    | exc x h1 => rfl
    | bad => rfl
theorem for_L {mi : MI} {g : MG} {body : MS} {e : En} {h h1 : Hs} {it : Iter} (xs : List D) (hm : mi e h = .ok it h1) (hl : it.len h1 = xs.length) (hget : ∀ i h, i ≤ xs.length → it.get i h = some xs[i]?) : sFor mi g body e h = forL g body xs e h1 := by
  unfold sFor
  rw [hm]
  show forGo it g body (it.len h1) 0 e h1 = _
  rw [hl, forGo_L hget xs.length 0 e h1 (by omega), List.drop_zero]
def intsD (lo : Int) (n : Nat) : List D := (List.range n).map fun (i : Nat) => D.int (lo + i)
theorem intsD_len (lo : Int) (n : Nat) : (intsD lo n).length = n := by simp [intsD]
theorem intsD_get {lo : Int} {n i : Nat} (hi : i < n) : (intsD lo n)[i]? = some (.int (lo + i)) := by
  simp [intsD, hi]
theorem for_rngL {mi : MI} {g : MG} {body : MS} {e : En} {h h1 : Hs} {lo : Int} {n : Nat} (hm : mi e h = .ok (.rng lo n) h1) : sFor mi g body e h = forL g body (intsD lo n) e h1 := by
  refine for_L (intsD lo n) hm (intsD_len lo n).symm fun i h hi => ?_
  rw [intsD_len] at hi
  by_cases hlt : i < n
  · rw [intsD_get hlt, rng_get hlt]
  · have : i = n := by omega
    subst this
    rw [rng_end, List.getElem?_eq_none (by rw [intsD_len]; exact Nat.le_refl _)]
theorem for_tupL {mi : MI} {g : MG} {body : MS} {e : En} {h h1 : Hs} {xs : List D} (hm : mi e h = .ok (.one (.st xs)) h1) : sFor mi g body e h = forL g body xs e h1 :=
  for_L xs hm rfl fun _ _ _ => rfl
def enumD (xs : List D) (i : Nat) : List D := match xs with
  | [] => []
  | x :: r => .tup [.int i, x] :: enumD r (i + 1)
theorem enumD_len : ∀ (xs : List D) (i : Nat), (enumD xs i).length = xs.length
  | [], _ => rfl
  | _ :: r, i => by rw [enumD, List.length_cons, List.length_cons, enumD_len r]
theorem enumD_get : ∀ (xs : List D) (i j : Nat), (enumD xs i)[j]? = xs[j]?.map fun x => .tup [.int ((i + j : Nat) : Int), x]
  | [], _, _ => rfl
  | _ :: r, i, 0 => rfl
  | _ :: r, i, j + 1 => by
    rw [enumD, List.getElem?_cons_succ, List.getElem?_cons_succ, enumD_get r (i + 1) j]
    congr 1
    funext x
    have : i + 1 + j = i + (j + 1) := by omega
    rw [this]
theorem for_enumL {mi : MI} {g : MG} {body : MS} {e : En} {h h1 : Hs} {xs : List D} (hm : mi e h = .ok (.enum (.st xs)) h1) : sFor mi g body e h = forL g body (enumD xs 0) e h1 := by
  refine for_L (enumD xs 0) hm (by rw [enumD_len]; rfl) fun i h hi => ?_
  rw [enumD_len] at hi
  rw [enumD_get, Nat.zero_add]
  show (match some xs[i]? with | some (some d) => _ | some none => _ | none => _) = _
  cases q : xs[i]? with
  | some d => rfl
  | none =>
    have : xs.length ≤ i := List.getElem?_eq_none_iff.mp q
    show (if (Src.st xs).len h = i then _ else _) = _
    have e : (Src.st xs).len h = i := show xs.length = i by omega
    rw [if_pos e]
    rfl
theorem forL_cons {g : MG} {body : MS} {d : D} {ds : List D} {e e1 e2 : En} {h h1 h2 : Hs} (hg : g d e h = .ok e1 h1) (hb : body e1 h1 = .nx e2 h2) : forL g body (d :: ds) e h = forL g body ds e2 h2 := by
  conv => lhs; unfold forL
  rw [hg]
  show (match body e1 h1 with | _ => _) = _
  rw [hb]
/-- a loop as a fold -/
theorem forL_fold {α σ : Type} {g : MG} {body : MS} (E : σ → En) (H : σ → Hs) (f : α → D) (step : σ → α → σ) (P : σ → Prop) : ∀ (xs : List α) (st : σ), P st →
    (∀ st x, P st → x ∈ xs → P (step st x) ∧ ∃ e1 h1, g (f x) (E st) (H st) = .ok e1 h1 ∧ body e1 h1 = .nx (E (step st x)) (H (step st x))) →
    forL g body (xs.map f) (E st) (H st) = .nx (E (xs.foldl step st)) (H (xs.foldl step st)) ∧ P (xs.foldl step st)
  | [], st, hp, _ => ⟨rfl, hp⟩
  | x :: xs, st, hp, hs => by
    obtain ⟨hp2, e1, h1, q1, q2⟩ := hs st x hp List.mem_cons_self
    rw [List.map_cons, forL_cons q1 q2]
    exact forL_fold E H f step P xs (step st x) hp2 fun st y h1 h2 => hs st y h1 (List.mem_cons_of_mem _ h2)
/-- a loop that leaves the state -/
theorem forL_same {α : Type} {g : MG} {body : MS} {f : α → D} {e : En} {h : Hs} : ∀ (xs : List α), (∀ x ∈ xs, ∃ e1 h1, g (f x) e h = .ok e1 h1 ∧ body e1 h1 = .nx e h) → forL g body (xs.map f) e h = .nx e h
  | [], _ => rfl
  | x :: xs, hs => by
    obtain ⟨e1, h1, q1, q2⟩ := hs x List.mem_cons_self
    rw [List.map_cons, forL_cons q1 q2]
    exact forL_same xs fun y hy => hs y (List.mem_cons_of_mem _ hy)
theorem intsD_map (lo : Int) (n : Nat) : intsD lo n = (List.range n).map fun (i : Nat) => D.int (lo + i) := rfl
theorem ints0 (n : Nat) : intsD 0 n = (List.range n).map fun (i : Nat) => D.int (i : Int) := by
  unfold intsD
  apply List.map_congr_left
  intro a _
  rw [Int.zero_add]
/-! ### tidying -/
theorem tidy_nx0 {clr : List Nat} {m : MS} {e e1 : En} {h h1 : Hs} (hm : m e h = .nx e1 h1) (hl : h1.length = h.length) (hc : Cl h1) (he : eLow h.length (wipeE e1 clr) = true) : sTidy clr m e h = .nx (wipeE e1 clr) h1 :=
  tidy_nx (r := []) (by rw [List.append_nil]; exact hm) hl hc he
theorem low0 {d : D} {n : Nat} (h : dLow 0 d = true) : dLow n d = true := dLow_mono (Nat.zero_le _) h
theorem eLow_nil {n : Nat} : eLow n [] = true := rfl
theorem eLow_none {n : Nat} {e : En} : eLow n (none :: e) = eLow n e := by
  show (true && eLow n e) = _
  rw [Bool.true_and]
theorem eLow_some {n : Nat} {d : D} {e : En} : eLow n (some d :: e) = (dLow n d && eLow n e) := rfl
/-! ### items -/
theorem ix_tup {xs : List D} {i : Nat} {d : D} {h : Hs} (hx : xs[i]? = some d) : vIx (.tup xs) (.int (i : Int)) h = some (d, h) := by
  obtain ⟨hi, rfl⟩ := List.getElem?_eq_some_iff.mp hx
  show (L2.atI xs (i : Int)).map _ = _
  rw [atI_nat hi]
  rfl
theorem ix_tupI {xs : List D} {i : Int} {d : D} {h : Hs} (h0 : 0 ≤ i) (hx : xs[i.toNat]? = some d) : vIx (.tup xs) (.int i) h = some (d, h) := by
  have e : i = (i.toNat : Int) := by omega
  have k := ix_tup (h := h) hx
  rw [← e] at k
  exact k
theorem ix_ref {xs : List D} {n i : Nat} {d : D} {h : Hs} (hn : h[n]? = some (.lst xs)) (hx : xs[i]? = some d) : vIx (.ref n) (.int (i : Int)) h = some (d, h) := by
  obtain ⟨hi, rfl⟩ := List.getElem?_eq_some_iff.mp hx
  have : seqOf (.ref n) h = some xs := by
    simp only [seqOf, hn]
  show (match seqOf (.ref n) h, D.int (i : Int) with | some xs, .int i => (L2.atI xs i).map fun x => (x, h) | _, _ => none) = _
  rw [this]
  show (L2.atI xs (i : Int)).map _ = _
  rw [atI_nat hi]
  rfl
theorem ix_refI {xs : List D} {n : Nat} {i : Int} {d : D} {h : Hs} (hn : h[n]? = some (.lst xs)) (h0 : 0 ≤ i) (hx : xs[i.toNat]? = some d) : vIx (.ref n) (.int i) h = some (d, h) := by
  have e : i = (i.toNat : Int) := by omega
  have k := ix_ref (h := h) hn hx
  rw [← e] at k
  exact k
theorem sz_le {n : Nat} (h : n ≤ 100000) : n ≤ sizeLine := Nat.le_trans h (by decide)
theorem vTup_ok {ds : List D} {h : Hs} (hl : ds.length ≤ 100000) : vTup ds h = some (.tup ds, h) := by
  show (if ds.length ≤ sizeLine then _ else _) = _
  rw [if_pos (sz_le hl)]
theorem vLst_ok {ds : List D} {h : Hs} (hl : ds.length ≤ 100000) : vLst ds h = some (.ref h.length, h ++ [.lst ds]) := by
  show (if ds.length ≤ sizeLine then _ else _) = _
  rw [if_pos (sz_le hl)]
theorem vLst_hp {s : S} {r : Hs} {ds : List D} (hl : ds.length ≤ 100000) : vLst ds (s.hp ++ r) = some (.ref (4 + r.length), s.hp ++ (r ++ [.lst ds])) := by
  rw [vLst_ok hl, List.append_assoc, List.length_append]
  rfl
theorem append_ok {n : Nat} {xs : List D} {d : D} {h : Hs} (hn : h[n]? = some (.lst xs)) (hl : xs.length < 100000) : vAppend (.ref n) [d] h = some (.non, h.set n (.lst (xs ++ [d]))) := by
  simp only [vAppend, hn]
  rw [if_pos (Nat.lt_of_lt_of_le hl (by decide))]
theorem isL_ref {n : Nat} {xs : List D} {h : Hs} (hn : h[n]? = some (.lst xs)) : isL (.ref n) h = true := by
  simp only [isL, listOf1, hn, Option.bind_some, lsO, Option.isSome_some]
theorem hp_get {s : S} {r : Hs} {k : Nat} : (s.hp ++ r)[k + 4]? = r[k]? := by
  rw [List.getElem?_append_right (by simp [S.hp])]
  rfl
end DS
namespace DS
open PySem
theorem forL_foldI {α σ : Type} {g : MG} {body : MS} (E : σ → En) (H : σ → Hs) (f : α → D) (step : σ → α → σ) (P : Nat → σ → Prop) (xs : List α) (st : σ) (h0 : P 0 st)
    (hs : ∀ i st x, xs[i]? = some x → P i st → P (i + 1) (step st x) ∧ ∃ e1 h1, g (f x) (E st) (H st) = .ok e1 h1 ∧ body e1 h1 = .nx (E (step st x)) (H (step st x))) :
    forL g body (xs.map f) (E st) (H st) = .nx (E (xs.foldl step st)) (H (xs.foldl step st)) ∧ P xs.length (xs.foldl step st) := by
  have aux : ∀ (ys pre : List α) (st : σ), xs = pre ++ ys → P pre.length st → forL g body (ys.map f) (E st) (H st) = .nx (E (ys.foldl step st)) (H (ys.foldl step st)) ∧ P xs.length (ys.foldl step st) := by
    intro ys
    induction ys with
    | nil =>
      intro pre st e hp
      rw [List.append_nil] at e
      subst e
      exact ⟨rfl, hp⟩
    | cons y ys ih =>
      intro pre st e hp
      obtain ⟨hp2, e1, h1, q1, q2⟩ := hs pre.length st y (by rw [e, List.getElem?_append_right (Nat.le_refl _)]; simp) hp
      rw [List.map_cons, forL_cons q1 q2]
      exact ih (pre ++ [y]) (step st y) (by rw [e]; simp) (by rw [List.length_append]; exact hp2)
  exact aux xs [] st rfl h0
/-! comprehensions over known items -/
theorem cpGo_L {it : Iter} {g : Tgt} {t : MT} {e : ME} {env : En} {h : Hs} {α : Type} {xs : List α} {f : α → D} {T : α → Bool} {Y : α → D} (hget : ∀ i, i ≤ xs.length → it.get i h = some (xs.map f)[i]?) (hn : xs.length ≤ 100000)
    (hs : ∀ x ∈ xs, ∃ e1, g.put (f x) env = some e1 ∧ t e1 h = .ok (T x) h ∧ (T x = true → gcR h.length (e e1 h) = .ok (Y x) h)) :
    ∀ (k i : Nat) (acc : List D), i + k = xs.length → acc.length ≤ i → cpGo it g t e env k i acc h = .ok (acc ++ ((xs.drop i).filter T).map Y) h
  | 0, i, acc, hi, ha => by
    have : i = xs.length := by omega
    subst this
    unfold cpGo
    rw [hget _ (Nat.le_refl _), List.getElem?_eq_none (by simp), List.drop_length]
    simp
  | k + 1, i, acc, hi, ha => by
    have hlt : i < xs.length := by omega
    obtain ⟨e1, q2, q3, q4⟩ := hs xs[i] (List.getElem_mem hlt)
    unfold cpGo
    rw [hget _ (Nat.le_of_lt hlt), List.getElem?_map, List.getElem?_eq_getElem hlt, List.drop_eq_getElem_cons hlt]
    simp only [Option.map_some, q2, q3, R.nox, bind_ok]
    cases q : T xs[i] with
    | true =>
      simp only [if_true, q4 q, R.nox, bind_ok]
      have : acc.length < sizeLine := Nat.lt_of_le_of_lt (show acc.length ≤ 100000 by omega) (by decide)
      rw [if_pos this, cpGo_L hget hn hs k (i + 1) (acc ++ [Y xs[i]]) (by omega) (by simp only [List.length_append, List.length_cons, List.length_nil]; omega)]
      rw [List.filter_cons_of_pos q, List.map_cons, List.append_assoc]
      rfl
    | false =>
      rw [if_neg (by decide), cpGo_L hget hn hs k (i + 1) acc (by omega) (by omega), List.filter_cons_of_neg (by rw [q]; decide)]
theorem comp_L {vs : List Nat} {mi : MI} {g : Tgt} {t : MT} {e : ME} {env : En} {h : Hs} {it : Iter} {α : Type} (xs : List α) (f : α → D) (T : α → Bool) (Y : α → D) (hm : mi env h = .ok it h) (hl : it.len h = xs.length) (hget : ∀ i, i ≤ xs.length → it.get i h = some (xs.map f)[i]?) (hn : xs.length ≤ 100000)
    (hs : ∀ x ∈ xs, ∃ e1, g.put (f x) (wipeE env vs) = some e1 ∧ t e1 h = .ok (T x) h ∧ (T x = true → gcR h.length (e e1 h) = .ok (Y x) h)) :
    eComp vs mi g t e env h = .ok (.ref h.length) (h ++ [.lst ((xs.filter T).map Y)]) := by
  unfold eComp
  rw [hm]
  show (cpGo it g t e (wipeE env vs) (it.len h) 0 [] h).bind _ = _
  rw [hl, cpGo_L hget hn hs xs.length 0 [] (by omega) (Nat.le_refl _)]
  simp only [bind_ok, List.nil_append, List.drop_zero]
theorem comp_tup {vs : List Nat} {mi : MI} {g : Tgt} {t : MT} {e : ME} {env : En} {h : Hs} {α : Type} (xs : List α) (f : α → D) (T : α → Bool) (Y : α → D) (hm : mi env h = .ok (.one (.st (xs.map f))) h) (hn : xs.length ≤ 100000)
    (hs : ∀ x ∈ xs, ∃ e1, g.put (f x) (wipeE env vs) = some e1 ∧ t e1 h = .ok (T x) h ∧ (T x = true → gcR h.length (e e1 h) = .ok (Y x) h)) :
    eComp vs mi g t e env h = .ok (.ref h.length) (h ++ [.lst ((xs.filter T).map Y)]) :=
  comp_L xs f T Y hm (by show (xs.map f).length = _; simp) (fun _ _ => rfl) hn hs
theorem comp_rng0 {vs : List Nat} {mi : MI} {g : Tgt} {t : MT} {e : ME} {env : En} {h : Hs} {n : Nat} (T : Nat → Bool) (Y : Nat → D) (hm : mi env h = .ok (.rng 0 n) h) (hn : n ≤ 100000)
    (hs : ∀ x, x < n → ∃ e1, g.put (.int (x : Int)) (wipeE env vs) = some e1 ∧ t e1 h = .ok (T x) h ∧ (T x = true → gcR h.length (e e1 h) = .ok (Y x) h)) :
    eComp vs mi g t e env h = .ok (.ref h.length) (h ++ [.lst (((List.range n).filter T).map Y)]) :=
  comp_L (List.range n) (fun x => .int (x : Int)) T Y hm (by simp [Iter.len]) (fun i hi => by
    rw [List.length_range] at hi
    by_cases hlt : i < n
    · rw [rng_get hlt, Int.zero_add]; simp [hlt]
    · have : i = n := by omega
      subst this
      rw [rng_end]; simp) (by simpa using hn) fun x hx => hs x (List.mem_range.mp hx)
theorem comp_lst {vs : List Nat} {mi : MI} {g : Tgt} {t : MT} {e : ME} {env : En} {h : Hs} {n : Nat} {α : Type} (xs : List α) (f : α → D) (T : α → Bool) (Y : α → D) (hm : mi env h = .ok (.one (.lv n)) h) (hg : h[n]? = some (.lst (xs.map f))) (hn : xs.length ≤ 100000)
    (hs : ∀ x ∈ xs, ∃ e1, g.put (f x) (wipeE env vs) = some e1 ∧ t e1 h = .ok (T x) h ∧ (T x = true → gcR h.length (e e1 h) = .ok (Y x) h)) :
    eComp vs mi g t e env h = .ok (.ref h.length) (h ++ [.lst ((xs.filter T).map Y)]) :=
  comp_L xs f T Y hm (by simp only [Iter.len, Src.len, hg, Option.bind_some, lsO]; simp) (fun i _ => by simp only [Iter.get, Src.get, hg, Option.bind_some, lsO, Option.map_some]) hn hs
theorem filter_all {α : Type} (xs : List α) : xs.filter (fun _ => true) = xs := List.filter_eq_self.mpr fun _ _ => rfl
theorem gc_pure {h : Hs} {d : D} {r : R D} (hr : r = .ok d h) (hc : Cl h) (hd : dLow h.length d = true) : gcR h.length r = .ok d h := by
  rw [hr]; exact gc_low0 rfl hc hd
/-! heaps h ++ r -/
theorem app_get {h r : Hs} {k : Nat} : (h ++ r)[h.length + k]? = r[k]? := by
  rw [List.getElem?_append_right (Nat.le_add_right _ _), Nat.add_sub_cancel_left]
theorem app_get0 {h r : Hs} : (h ++ r)[h.length]? = r[0]? := app_get (k := 0)
theorem app_set {h r : Hs} {k : Nat} {o : O} : (h ++ r).set (h.length + k) o = h ++ r.set k o := by
  rw [List.set_append_right _ _ (Nat.le_add_right _ _), Nat.add_sub_cancel_left]
theorem app_set0 {h r : Hs} {o : O} : (h ++ r).set h.length o = h ++ r.set 0 o := app_set (k := 0)
theorem Cl.app0 {h r : Hs} (hc : Cl h) (hr : r.all (oLow 0) = true) : Cl (h ++ r) := by
  unfold Cl at *
  rw [List.all_append, Bool.and_eq_true, List.length_append]
  constructor
  · rw [List.all_eq_true] at hc ⊢
    exact fun o ho => oLow_mono (Nat.le_add_right _ _) (hc o ho)
  · rw [List.all_eq_true] at hr ⊢
    exact fun o ho => oLow_mono (Nat.zero_le _) (hr o ho)
theorem vLst_app {h r : Hs} {ds : List D} (hl : ds.length ≤ 100000) : vLst ds (h ++ r) = some (.ref (h.length + r.length), h ++ (r ++ [.lst ds])) := by
  rw [vLst_ok hl, List.append_assoc, List.length_append]
theorem vLst_nil {h : Hs} : vLst [] h = some (.ref h.length, h ++ [.lst []]) := vLst_ok (by decide)
theorem oLow_ints {n : Nat} {ns : List Int} : oLow n (.lst (ns.map .int)) = true := ints_low
/-! equality -/
mutual
theorem eqD_refl : ∀ (n : Nat) (d : D), okN n d = true → eqD d d = true
  | _, .non, _ => rfl
  | _, .bl b, _ => by simp [eqD]
  | _, .int b, _ => by simp [eqD]
  | _, .str b, _ => by simp [eqD]
  | n, .ref k, h => by cases n <;> cases h
  | n, .sl k, h => by cases n <;> cases h
  | n, .tup xs, h => by
    cases n with
    | zero => cases h
    | succ n => exact eqA_refl n xs h
theorem eqA_refl : ∀ (n : Nat) (xs : List D), xs.all (okN n) = true → eqA xs xs = true
  | _, [], _ => rfl
  | n, x :: xs, h => by
    rw [List.all_cons, Bool.and_eq_true] at h
    show (eqD x x && eqA xs xs) = true
    rw [eqD_refl n x h.1, eqA_refl n xs h.2]; rfl
end
theorem eqH_same {d : D} {h : Hs} (hd : okN 30 d = true) : eqH d d h = some true := by
  have l : listOf1 d h = none := by cases d <;> first | rfl | cases hd
  unfold eqH
  rw [l]
  simp only
  rw [eqD_refl 30 d hd, hd]
  simp
theorem vNe_same {d : D} {h : Hs} (hd : okN 30 d = true) : vNe d d h = some (.bl false, h) := by
  unfold vNe; rw [eqH_same hd]; rfl
theorem vEq_same {d : D} {h : Hs} (hd : okN 30 d = true) : vEq d d h = some (.bl true, h) := by
  unfold vEq; rw [eqH_same hd]; rfl
theorem okN_int {n : Nat} {i : Int} : okN n (.int i) = true := by cases n <;> rfl
theorem ok_ints {ns : List Int} : okN 30 (.tup (ns.map .int)) = true := okN_ints
theorem ne_nil {n : Nat} {xs : List D} {h : Hs} (hn : h[n]? = some (.lst xs)) (hx : xs.all (okN 29) = true) : vNe (.ref n) (.ref h.length) (h ++ [.lst []]) = some (.bl (!xs.isEmpty), h ++ [.lst []]) := by
  have l1 : listOf1 (.ref n) (h ++ [.lst []]) = some xs := by
    show ((h ++ [.lst []])[n]?).bind lsO = _
    rw [List.getElem?_append_left (List.getElem?_eq_some_iff.mp hn).1, hn]
    rfl
  have l2 : listOf1 (.ref h.length) (h ++ [.lst []]) = some [] := by
    show ((h ++ [.lst []])[h.length]?).bind lsO = _
    rw [app_get0]; rfl
  unfold vNe eqH
  rw [l1, l2]
  simp only
  rw [hx]
  simp only [List.all_nil, Bool.and_true, if_true, Option.map_some]
  cases xs <;> rfl
theorem tuple_ref {n : Nat} {xs : List D} {h : Hs} (hn : h[n]? = some (.lst xs)) : vTuple [.ref n] h = some (.tup xs, h) := by
  simp only [vTuple, seqOf, hn]
theorem in_ints {c : Int} {ns : List Int} {h : Hs} : vIn (.int c) (.tup (ns.map .int)) h = some (.bl (ns.contains c), h) := by
  have f : (ns.map D.int).all flatD = true := by
    rw [List.all_eq_true]; intro d hd; obtain ⟨i, _, rfl⟩ := List.mem_map.mp hd; rfl
  have e : inD (.int c) (ns.map D.int) = ns.contains c := by
    unfold inD
    induction ns with
    | nil => rfl
    | cons n r ih =>
      have f2 : (r.map D.int).all flatD = true := by
        rw [List.map_cons, List.all_cons, Bool.and_eq_true] at f; exact f.2
      rw [List.map_cons, List.any_cons, ih f2, List.contains_cons]
      show ((n == c) || _) = _
      have e3 : (n == c) = (c == n) := by
        by_cases q : n = c
        · rw [q]
        · rw [beq_eq_false_iff_ne.mpr q, beq_eq_false_iff_ne.mpr (Ne.symm q)]
      rw [e3]
  unfold vIn inH
  show (if (true && (ns.map D.int).all flatD) = true then some (inD (.int c) (ns.map D.int)) else none).map _ = _
  rw [f, e]; rfl
theorem foldl_snoc {α β : Type} (f : α → β) : ∀ (xs : List α) (acc : List β), xs.foldl (fun a x => a ++ [f x]) acc = acc ++ xs.map f
  | [], acc => by simp
  | x :: xs, acc => by rw [List.foldl_cons, foldl_snoc f xs, List.map_cons, List.append_assoc]; rfl
theorem foldl_filt {α β : Type} (t : α → Bool) (f : α → β) : ∀ (xs : List α) (acc : List β), xs.foldl (fun a x => if t x = true then a ++ [f x] else a) acc = acc ++ (xs.filter t).map f
  | [], acc => by simp
  | x :: xs, acc => by
    rw [List.foldl_cons, foldl_filt t f xs]
    cases q : t x with
    | true => rw [List.filter_cons_of_pos q, if_pos rfl, List.map_cons, List.append_assoc]; rfl
    | false => rw [List.filter_cons_of_neg (by rw [q]; decide), if_neg (by decide)]
end DS

set_option Elab.async false
set_option linter.all false
set_option maxRecDepth 100000
set_option maxHeartbeats 4000000
namespace K01
open DS PySem
def c_READ : D := .str "read"
def c_WRITE : D := .str "write"
def c_LOW : D := .str "low"
def c_HIGH : D := .str "high"
def c_BOTH : D := .str "both"
def c_TOLD : D := .str "told"
def c_HUNG : D := .str "hung"
def c_MOST_WORD : D := .int 99
def c_MOST_ACCESSES : D := .int 12
def c_SIGNS : D := .int 4
def k_CELLS : List (Str × D) := [("low", .tup [.int 0]), ("high", .tup [.int 1]), ("both", .tup [.int 0, .int 1])]
def fuel__law_hangs : Nat := 14
def m_is_integer : MS :=
    (sRet (eAndM (eIsi .int (eVar 0)) (eNotM (eIsi .bl (eVar 0)))))
def f_is_integer : MF := mFn 1 m_is_integer
def m_is_between : MS :=
    (sRet (eAndM (eCall 1 f_is_integer (aCons (eVar 0) aNil)) (eChain vLe vLe (eVar 1) (eVar 0) (eVar 2))))
def f_is_between : MF := mFn 3 m_is_between
def m_is_word : MS :=
    (sRet (eCall 3 f_is_between (aCons (eVar 0) (aCons (eC (.int 0)) (aCons (eC c_MOST_WORD) aNil)))))
def f_is_word : MF := mFn 1 m_is_word
def m_is_one_of : MS :=
    (sRet (eAndM (eIsi .str (eVar 1)) (eOp2 vIn (eVar 1) (eVar 0))))
def f_is_one_of : MF := mFn 2 m_is_one_of
def m_is_place : MS :=
    (sSeq (sSet 2 (eOp2 vIx (eOp2 vIx (eVar 0) (eVar 1)) (eC (.int 2))))
    (sSeq (sIf (tOrM (tNotM (tsB (eIsi .tup (eVar 2)))) (tOrM (tsB (eOp2 vEq (eVar 2) (eOpN vTup aNil))) (tNotM (tsB (eIsi .str (eOp2 vIx (eVar 2) (eC (.int 0)))))))) (sRet (eC (.bl false))) sPass)
    (sSeq (sIf (tsB (eOp2 vEq (eOp2 vIx (eVar 2) (eC (.int 0))) (eC c_TOLD))) (sRet (eAndM (eOp2 vEq (eOpN vLen (aCons (eVar 2) aNil)) (eC (.int 2))) (eCall 1 f_is_word (aCons (eOp2 vIx (eVar 2) (eC (.int 1))) aNil)))) sPass)
    (sSeq (sIf (tOrM (tsB (eOp2 vNe (eOp2 vIx (eVar 2) (eC (.int 0))) (eC c_HUNG))) (tOrM (tsB (eOp2 vNe (eOpN vLen (aCons (eVar 2) aNil)) (eC (.int 4)))) (tNotM (tsB (eCall 3 f_is_between (aCons (eOp2 vIx (eVar 2) (eC (.int 1))) (aCons (eC (.int 0)) (aCons (eOp2 vSub (eVar 1) (eC (.int 1))) aNil)))))))) (sRet (eC (.bl false))) sPass)
    (sRet (eAndM (eOp2 vEq (eOp2 vIx (eOp2 vIx (eVar 0) (eOp2 vIx (eVar 2) (eC (.int 1)))) (eC (.int 0))) (eC c_READ)) (eAndM (eCall 1 f_is_word (aCons (eOp2 vIx (eVar 2) (eC (.int 2))) aNil)) (eCall 1 f_is_word (aCons (eOp2 vIx (eVar 2) (eC (.int 3))) aNil)))))))))
def f_is_place : MF := mFn 3 m_is_place
def b1_need_program : MS :=
    (sTidy [1, 2] (sSeq (sIf (tOrM (tNotM (tsB (eIsi .tup (eVar 2)))) (tsB (eOp2 vNe (eOpN vLen (aCons (eVar 2) aNil)) (eC (.int 3))))) sBad sPass)
    (sIf (tOrM (tNotM (tsB (eCall 2 f_is_one_of (aCons (eOpN vTup (aCons (eC c_READ) (aCons (eC c_WRITE) aNil))) (aCons (eOp2 vIx (eVar 2) (eC (.int 0))) aNil))))) (tNotM (tsB (eCall 2 f_is_one_of (aCons (eOpN vTup (aCons (eC c_LOW) (aCons (eC c_HIGH) (aCons (eC c_BOTH) aNil)))) (aCons (eOp2 vIx (eVar 2) (eC (.int 1))) aNil)))))) sBad sPass)))
def l1_need_program : MS :=
    (sFor (iEnum (eVar 0)) (gTup 2 (gCons (gName 1) (gCons (gName 2) gNil))) b1_need_program)
def b2_need_program : MS :=
    (sTidy [1] (sIf (tNotM (tsB (eCall 2 f_is_place (aCons (eVar 0) (aCons (eVar 1) aNil))))) sBad sPass))
def l2_need_program : MS :=
    (sFor (iRange1 (eOpN vLen (aCons (eVar 0) aNil))) (gName 1) b2_need_program)
def m_need_program : MS :=
    (sSeq (sIf (tOrM (tNotM (tsB (eIsi .tup (eVar 0)))) (tNotM (tsB (eChain vLe vLe (eC (.int 1)) (eOpN vLen (aCons (eVar 0) aNil)) (eC c_MOST_ACCESSES))))) sBad sPass)
    (sSeq l1_need_program
    (sSeq l2_need_program
    (sRet (eVar 0)))))
def f_need_program : MF := mFn 3 m_need_program
def m_cells_of : MS :=
    (sRet (eKGet k_CELLS (eOp2 vIx (eVar 0) (eC (.int 1)))))
def f_cells_of : MF := mFn 1 m_cells_of
def q1_true_in : ME :=
    (eComp [1, 2, 3] (iSeq (eVar 0)) (.tp [1, 2, 3]) tTrue (eIfM (tsB (eOp2 vEq (eOp2 vIx (eVar 3) (eC (.int 0))) (eC c_TOLD))) (eOp2 vIx (eVar 3) (eC (.int 1))) (eOp2 vIx (eVar 3) (eC (.int 2)))))
def m_true_in : MS :=
    (sRet q1_true_in)
def f_true_in : MF := mFn 4 m_true_in
def m_first_worth : MS :=
    (sRet (eOp2 vSub (eOp1 vNeg (eC (.int 1))) (eVar 0)))
def f_first_worth : MF := mFn 1 m_first_worth
def m_youngest : MS :=
    (sRet (eIfM (tsB (eOp2 vNe (eVar 0) (eOpN vLst aNil))) (eOpN vMax (aCons (eVar 0) aNil)) (eCall 1 f_first_worth (aCons (eVar 1) aNil))))
def f_youngest : MF := mFn 2 m_youngest
def b1_right_in : MS :=
    (sTidy [8] (sIf (tAndM (tsB (eOp2 vEq (eOp2 vIx (eOp2 vIx (eVar 0) (eVar 8)) (eC (.int 0))) (eC c_WRITE))) (tAndM (tsB (eOp2 vEq (eOp2 vIx (eVar 1) (eVar 8)) (eOp2 vIx (eVar 1) (eVar 3)))) (tsB (eOp2 vIn (eVar 6) (eCall 1 f_cells_of (aCons (eOp2 vIx (eVar 0) (eVar 8)) aNil)))))) (sExpr (eMethL vAppend (eVar 7) (aCons (eVar 8) aNil))) sPass))
def l1_right_in : MS :=
    (sFor (iRange1 (eVar 3)) (gName 8) b1_right_in)
def b2_right_in : MS :=
    (sTidy [6, 7, 8] (sSeq (sSet 7 (eOpN vLst aNil))
    (sSeq l1_right_in
    (sExpr (eMethL vAppend (eVar 5) (aCons (eCall 2 f_youngest (aCons (eVar 7) (aCons (eOp2 vIx (eVar 1) (eVar 3)) aNil))) aNil))))))
def l2_right_in : MS :=
    (sFor (iSeq (eCall 1 f_cells_of (aCons (eVar 4) aNil))) (gName 6) b2_right_in)
def b3_right_in : MS :=
    (sTidy [3, 4, 5, 6, 7, 8] (sSeq (sSet 5 (eOpN vLst aNil))
    (sSeq l2_right_in
    (sExpr (eMethL vAppend (eVar 2) (aCons (eIfM (tsB (eOp2 vEq (eOp2 vIx (eVar 4) (eC (.int 0))) (eC c_READ))) (eOpN vTuple (aCons (eVar 5) aNil)) (eC .non)) aNil))))))
def l3_right_in : MS :=
    (sFor (iEnum (eVar 0)) (gTup 2 (gCons (gName 3) (gCons (gName 4) gNil))) b3_right_in)
def m_right_in : MS :=
    (sSeq (sPar2 1 2 (aCons (eCall 1 f_true_in (aCons (eVar 0) aNil)) (aCons (eOpN vLst aNil) aNil)))
    (sSeq l3_right_in
    (sRet (eVar 2))))
def f_right_in : MF := mFn 9 m_right_in
def b1_hanging_on : MS :=
    (sTidy [3, 4] (sSeq (sSet 4 (eOp2 vIx (eOp2 vIx (eVar 0) (eVar 3)) (eC (.int 2))))
    (sIf (tAndM (tsB (eOp2 vEq (eOp2 vIx (eVar 4) (eC (.int 0))) (eC c_HUNG))) (tOrM (tsB (eOp2 vEq (eOp2 vIx (eVar 4) (eC (.int 1))) (eVar 1))) (tsB (eOp2 vIn (eOp2 vIx (eVar 4) (eC (.int 1))) (eVar 2))))) (sExpr (eMethL vAppend (eVar 2) (aCons (eVar 3) aNil))) sPass)))
def l1_hanging_on : MS :=
    (sFor (iRange2 (eOp2 vAdd (eVar 1) (eC (.int 1))) (eOpN vLen (aCons (eVar 0) aNil))) (gName 3) b1_hanging_on)
def m_hanging_on : MS :=
    (sSeq (sSet 2 (eOpN vLst aNil))
    (sSeq l1_hanging_on
    (sRet (eVar 2))))
def f_hanging_on : MF := mFn 5 m_hanging_on
def m_true_words : MS :=
    (sRet (eOpN vTuple (aCons (eCall 1 f_true_in (aCons (eCall 1 f_need_program (aCons (eVar 0) aNil)) aNil)) aNil)))
def f_true_words : MF := mFn 1 m_true_words
def m_right_worths : MS :=
    (sRet (eOpN vTuple (aCons (eCall 1 f_right_in (aCons (eCall 1 f_need_program (aCons (eVar 0) aNil)) aNil)) aNil)))
def f_right_worths : MF := mFn 1 m_right_worths
def m_need_age : MS :=
    (sSeq (sIf (tNotM (tsB (eCall 3 f_is_between (aCons (eVar 1) (aCons (eC (.int 0)) (aCons (eOp2 vSub (eOpN vLen (aCons (eVar 0) aNil)) (eC (.int 1))) aNil)))))) sBad sPass)
    (sRet (eVar 1)))
def f_need_age : MF := mFn 2 m_need_age
def m_hangers_of : MS :=
    (sSeq (sExpr (eCall 1 f_need_program (aCons (eVar 0) aNil)))
    (sRet (eOpN vTuple (aCons (eCall 2 f_hanging_on (aCons (eVar 0) (aCons (eCall 2 f_need_age (aCons (eVar 0) (aCons (eVar 1) aNil))) aNil))) aNil))))
def f_hangers_of : MF := mFn 2 m_hangers_of
def m_have_one_sign : MS :=
    (sRet (eOp2 vEq (eOp2 vMod (eOpN vInt (aCons (eVar 0) aNil)) (eC c_SIGNS)) (eOp2 vMod (eOpN vInt (aCons (eVar 1) aNil)) (eC c_SIGNS))))
def f_have_one_sign : MF := mFn 2 m_have_one_sign
def b1_looks_alike : MS :=
    (sTidy [2] (sIf (tNotM (tsB (eCall 1 f_is_word (aCons (eVar 2) aNil)))) sBad sPass))
def l1_looks_alike : MS :=
    (sFor (iSeq (eOpN vTup (aCons (eVar 0) (aCons (eVar 1) aNil)))) (gName 2) b1_looks_alike)
def m_looks_alike : MS :=
    (sSeq l1_looks_alike
    (sRet (eCall 2 f_have_one_sign (aCons (eVar 0) (aCons (eVar 1) aNil)))))
def f_looks_alike : MF := mFn 3 m_looks_alike
def m__law_mixed : MS :=
    (sSeq (sSet 0 (eOp2 vMod (eOpN vInt (aCons (eVar 0) aNil)) (eC (.int 2147483647))))
    (sRet (eOp2 vMod (eOp2 vMul (eOp2 vMod (eOp2 vAdd (eOp2 vAdd (eOp2 vMul (eVar 0) (eOp2 vAdd (eC (.int 48271)) (eOp2 vMul (eOp2 vMul (eC (.int 2)) (eVar 1)) (eVar 1)))) (eOp2 vMul (eC (.int 69621)) (eVar 1))) (eC (.int 11))) (eC (.int 2147483647))) (eC (.int 69621))) (eC (.int 2147483629)))))
def f__law_mixed : MF := mFn 2 m__law_mixed
def q1__law_begin : ME :=
    (eComp [2] (iSeq (eVar 1)) (.nm 2) tTrue (eIfM (tsB (eOp2 vGe (eVar 2) (eOp2 vPow (eC (.int 10)) (eC (.int 18))))) (eVar 2) (eC (.int 0))))
def m__law_begin : MS :=
    (sSeq (sSet 1 (eIfM (tsB (eOp2 vNe (eVar 0) (eOpN vLst aNil))) (eOpN vList (aCons (eVar 0) aNil)) (eOpN vLst (aCons (eC (.int 0)) aNil))))
    (sRet (eDict [((eC (.str "cells")), (eVar 1)), ((eC (.str "lefts")), q1__law_begin), ((eC (.str "at")), (eC (.int 0))), ((eC (.str "room")), (eC (.int 0)))])))
def f__law_begin : MF := mFn 3 m__law_begin
def m__law_draw : MS :=
    (sSeq (sSet 2 (eOp2 vDGet (eVar 0) (eC (.str "at"))))
    (sSeq (sPut vDPut (eOp2 vAdd (eVar 2) (eC (.int 1))) (eVar 0) (eC (.str "at")))
    (sSeq (sSet 3 (eOp2 vMod (eOpN vInt (aCons (eVar 2) aNil)) (eOpN vLen (aCons (eOp2 vDGet (eVar 0) (eC (.str "cells"))) aNil))))
    (sSeq (sSet 4 (eOp2 vIx (eOp2 vDGet (eVar 0) (eC (.str "lefts"))) (eVar 3)))
    (sSeq (sIf (tsB (eOp2 vGt (eVar 4) (eC (.int 0)))) (sSeq (sPut vLPut (eOp2 vFdiv (eVar 4) (eVar 1)) (eOp2 vDGet (eVar 0) (eC (.str "lefts"))) (eVar 3))
    (sRet (eOp2 vMod (eOpN vInt (aCons (eVar 4) aNil)) (eVar 1)))) sPass)
    (sSeq (sSet 5 (eCall 2 f__law_mixed (aCons (eCall 2 f__law_mixed (aCons (eOp2 vIx (eOp2 vDGet (eVar 0) (eC (.str "cells"))) (eVar 3)) (aCons (eVar 2) aNil))) (aCons (eOp2 vAdd (eC (.int 40)) (eVar 2)) aNil))))
    (sRet (eOp2 vMod (eOp2 vFdiv (eOpN vInt (aCons (eOp2 vAdd (eOp2 vMul (eVar 5) (eC (.int 2147483647))) (eCall 2 f__law_mixed (aCons (eVar 5) (aCons (eOp2 vAdd (eC (.int 7)) (eVar 2)) aNil)))) aNil)) (eC (.int 64))) (eVar 1)))))))))
def f__law_draw : MF := mFn 6 m__law_draw
def m__law_of : MS :=
    (sRet (eOp2 vIx (eVar 1) (eCall 2 f__law_draw (aCons (eVar 0) (aCons (eOpN vLen (aCons (eVar 1) aNil)) aNil)))))
def f__law_of : MF := mFn 2 m__law_of
def m__law_cells : MS :=
    (sRet (eOp2 vDGet (eDict [((eC (.str "low")), (eOpN vTup (aCons (eC (.int 0)) aNil))), ((eC (.str "high")), (eOpN vTup (aCons (eC (.int 1)) aNil))), ((eC (.str "both")), (eOpN vTup (aCons (eC (.int 0)) (aCons (eC (.int 1)) aNil))))]) (eVar 0)))
def f__law_cells : MF := mFn 1 m__law_cells
def m__law_true : MS :=
    (sRet (eIfM (tsB (eOp2 vEq (eOp2 vIx (eOp2 vIx (eVar 0) (eC (.int 2))) (eC (.int 0))) (eC (.str "told")))) (eOp2 vIx (eOp2 vIx (eVar 0) (eC (.int 2))) (eC (.int 1))) (eOp2 vIx (eOp2 vIx (eVar 0) (eC (.int 2))) (eC (.int 2)))))
def f__law_true : MF := mFn 1 m__law_true
def b1__law_right : MS :=
    (sTidy [6, 7, 8, 9] (sSeq (sAsg (gTup 3 (gCons (gName 7) (gCons (gName 8) (gCons (gName 9) gNil)))) (eOp2 vIx (eVar 0) (eVar 6)))
    (sIf (tAndM (tsB (eOp2 vEq (eVar 7) (eC (.str "write")))) (tAndM (tsB (eOp2 vEq (eCall 1 f__law_true (aCons (eOp2 vIx (eVar 0) (eVar 6)) aNil)) (eVar 2))) (tsB (eOp2 vIn (eVar 4) (eCall 1 f__law_cells (aCons (eVar 8) aNil)))))) (sSet 5 (eVar 6)) sPass)))
def l1__law_right : MS :=
    (sFor (iRange1 (eVar 1)) (gName 6) b1__law_right)
def b2__law_right : MS :=
    (sTidy [4, 5, 6, 7, 8, 9] (sSeq (sSet 5 (eOp2 vSub (eOp1 vNeg (eC (.int 1))) (eVar 2)))
    (sSeq l1__law_right
    (sExpr (eMethL vAppend (eVar 3) (aCons (eVar 5) aNil))))))
def l2__law_right : MS :=
    (sFor (iSeq (eCall 1 f__law_cells (aCons (eOp2 vIx (eOp2 vIx (eVar 0) (eVar 1)) (eC (.int 1))) aNil))) (gName 4) b2__law_right)
def m__law_right : MS :=
    (sSeq (sPar2 2 3 (aCons (eCall 1 f__law_true (aCons (eOp2 vIx (eVar 0) (eVar 1)) aNil)) (aCons (eOpN vLst aNil) aNil)))
    (sSeq l2__law_right
    (sRet (eOpN vTuple (aCons (eVar 3) aNil)))))
def f__law_right : MF := mFn 10 m__law_right
def b1__law_hangs : MS :=
    (sTidy [] (sSeq (sSet 1 (eOp2 vIx (eOp2 vIx (eOp2 vIx (eVar 0) (eVar 1)) (eC (.int 2))) (eC (.int 1))))
    (sIf (tsB (eOp2 vEq (eVar 1) (eVar 2))) (sRet (eC (.bl true))) sPass)))
def w1__law_hangs : MS :=
    (sWhile fuel__law_hangs (tsB (eOp2 vEq (eOp2 vIx (eOp2 vIx (eOp2 vIx (eVar 0) (eVar 1)) (eC (.int 2))) (eC (.int 0))) (eC (.str "hung")))) b1__law_hangs)
def m__law_hangs : MS :=
    (sSeq w1__law_hangs
    (sRet (eC (.bl false))))
def f__law_hangs : MF := mFn 3 m__law_hangs
def m__law_rule : MS :=
    (sSeq (sPar2 1 2 (aCons (eOp2 vIx (eOpN vLst (aCons (eC (.str "any")) (aCons (eC (.str "any")) (aCons (eC (.str "guess")) (aCons (eC (.str "known")) aNil))))) (eCall 2 f__law_draw (aCons (eVar 0) (aCons (eC (.int 4)) aNil)))) (aCons (eOp2 vIx (eOpN vLst (aCons (eC (.str "cells")) (aCons (eC (.str "wait")) (aCons (eC (.str "store")) aNil)))) (eCall 2 f__law_draw (aCons (eVar 0) (aCons (eC (.int 3)) aNil)))) aNil)))
    (sSeq (sSet 3 (eOp2 vIx (eOpN vLst (aCons (eC (.str "cells")) (aCons (eC (.str "word")) (aCons (eC (.str "sign")) (aCons (eC (.str "all")) (aCons (eC (.str "cells")) (aCons (eC (.str "none")) aNil))))))) (eCall 2 f__law_draw (aCons (eVar 0) (aCons (eC (.int 6)) aNil)))))
    (sSeq (sSet 4 (eOp2 vIx (eOpN vLst (aCons (eC (.str "never")) (aCons (eC (.str "each")) (aCons (eC (.str "some")) aNil)))) (eCall 2 f__law_draw (aCons (eVar 0) (aCons (eC (.int 3)) aNil)))))
    (sSeq (sSet 5 (eOp2 vIx (eOpN vLst (aCons (eC (.str "one")) (aCons (eC (.str "hanging")) (aCons (eC (.str "behind")) (aCons (eC (.str "all")) (aCons (eC (.str "hanging")) aNil)))))) (eCall 2 f__law_draw (aCons (eVar 0) (aCons (eC (.int 5)) aNil)))))
    (sSeq (sPar2 6 7 (aCons (eOp2 vIx (eOpN vLst (aCons (eC (.str "took")) (aCons (eC (.str "none")) aNil))) (eCall 2 f__law_draw (aCons (eVar 0) (aCons (eC (.int 2)) aNil)))) (aCons (eOp2 vIx (eOpN vLst (aCons (eC (.str "eldest")) (aCons (eC (.str "known")) (aCons (eC (.str "ran")) aNil)))) (eCall 2 f__law_draw (aCons (eVar 0) (aCons (eC (.int 3)) aNil)))) aNil)))
    (sRet (eOpN vTup (aCons (eVar 1) (aCons (eVar 2) (aCons (eVar 3) (aCons (eVar 4) (aCons (eVar 5) (aCons (eVar 6) (aCons (eVar 7) aNil))))))))))))))
def f__law_rule : MF := mFn 8 m__law_rule
def q1__law_program : ME :=
    (eComp [9] (iRange1 (eVar 3)) (.nm 9) (tsB (eOp2 vEq (eOp2 vIx (eOp2 vIx (eVar 2) (eVar 9)) (eC (.int 0))) (eC (.str "read")))) (eVar 9))
def b1__law_program : MS :=
    (sTidy [3, 4, 5, 6, 7, 8] (sSeq (sSet 4 (eOp2 vIx (eOpN vLst (aCons (eC (.str "write")) (aCons (eC (.str "read")) aNil))) (eCall 2 f__law_draw (aCons (eVar 0) (aCons (eC (.int 2)) aNil)))))
    (sSeq (sSet 5 (eOp2 vIx (eOpN vLst (aCons (eC (.str "low")) (aCons (eC (.str "high")) (aCons (eC (.str "both")) aNil)))) (eCall 2 f__law_draw (aCons (eVar 0) (aCons (eC (.int 3)) aNil)))))
    (sSeq (sSet 6 (eOpN vLst (aCons (eC (.int 0)) (aCons (eC (.int 1)) (aCons (eC (.int 4)) (aCons (eC (.int 2)) aNil))))))
    (sSeq (sSet 7 (eOpN vTup (aCons (eC (.str "told")) (aCons (eOp2 vIx (eVar 6) (eOp2 vIx (eOpN vLst (aCons (eC (.int 0)) (aCons (eC (.int 0)) (aCons (eC (.int 0)) (aCons (eC (.int 1)) (aCons (eC (.int 2)) (aCons (eC (.int 3)) aNil))))))) (eCall 2 f__law_draw (aCons (eVar 0) (aCons (eC (.int 6)) aNil))))) aNil))))
    (sSeq (sSet 8 q1__law_program)
    (sSeq (sIf (tAndM (tsB (eOp2 vNe (eVar 8) (eOpN vLst aNil))) (tsB (eOp2 vEq (eCall 2 f__law_draw (aCons (eVar 0) (aCons (eC (.int 3)) aNil))) (eC (.int 0))))) (sSet 7 (eOpN vTup (aCons (eC (.str "hung")) (aCons (eCall 2 f__law_of (aCons (eVar 0) (aCons (eVar 8) aNil))) (aCons (eCall 2 f__law_of (aCons (eVar 0) (aCons (eVar 6) aNil))) (aCons (eCall 2 f__law_of (aCons (eVar 0) (aCons (eVar 6) aNil))) aNil)))))) sPass)
    (sExpr (eMethL vAppend (eVar 2) (aCons (eOpN vTup (aCons (eVar 4) (aCons (eVar 5) (aCons (eVar 7) aNil)))) aNil))))))))))
def l1__law_program : MS :=
    (sFor (iRange1 (eOp2 vAdd (eC (.int 1)) (eCall 2 f__law_draw (aCons (eVar 0) (aCons (eVar 1) aNil))))) (gName 3) b1__law_program)
def m__law_program : MS :=
    (sSeq (sSet 2 (eOpN vLst aNil))
    (sSeq l1__law_program
    (sRet (eOpN vTuple (aCons (eVar 2) aNil)))))
def f__law_program : MF := mFn 10 m__law_program
def q1__law_program_right : ME :=
    (eComp [5] (iSeq (eVar 0)) (.nm 5) tTrue (eCall 1 f__law_true (aCons (eVar 5) aNil)))
def b1__law_program_right : MS :=
    (sTidy [2] (sExpr (eMethL vAppend (eVar 1) (aCons (eIfM (tsB (eOp2 vEq (eOp2 vIx (eOp2 vIx (eVar 0) (eVar 2)) (eC (.int 0))) (eC (.str "read")))) (eCall 2 f__law_right (aCons (eVar 0) (aCons (eVar 2) aNil))) (eC .non)) aNil))))
def l1__law_program_right : MS :=
    (sFor (iRange1 (eOpN vLen (aCons (eVar 0) aNil))) (gName 2) b1__law_program_right)
def q2__law_program_right : ME :=
    (eComp [4] (iRange1 (eOpN vLen (aCons (eVar 0) aNil))) (.nm 4) (tsB (eCall 3 f__law_hangs (aCons (eVar 0) (aCons (eVar 4) (aCons (eVar 2) aNil))))) (eVar 4))
def b2__law_program_right : MS :=
    (sTidy [2, 3] (sSeq (sSet 3 (eOpN vTuple (aCons q2__law_program_right aNil)))
    (sIf (tOrM (tsB (eOp2 vNe (eCall 2 f_hangers_of (aCons (eVar 0) (aCons (eVar 2) aNil))) (eVar 3))) (tsB (eOp2 vNe (eCall 2 f_hangers_of (aCons (eVar 0) (aCons (eVar 2) aNil))) (eVar 3)))) (sRet (eC (.bl false))) sPass)))
def l2__law_program_right : MS :=
    (sFor (iRange1 (eOpN vLen (aCons (eVar 0) aNil))) (gName 2) b2__law_program_right)
def q3__law_program_right : ME :=
    (eComp [5] (iSeq (eVar 0)) (.nm 5) tTrue (eCall 1 f__law_true (aCons (eVar 5) aNil)))
def m__law_program_right : MS :=
    (sSeq (sIf (tOrM (tsB (eOp2 vNe (eCall 1 f_need_program (aCons (eVar 0) aNil)) (eVar 0))) (tsB (eOp2 vNe (eCall 1 f_true_words (aCons (eVar 0) aNil)) (eOpN vTuple (aCons q1__law_program_right aNil))))) (sRet (eC (.bl false))) sPass)
    (sSeq (sSet 1 (eOpN vLst aNil))
    (sSeq l1__law_program_right
    (sSeq (sIf (tOrM (tsB (eOp2 vNe (eCall 1 f_right_worths (aCons (eVar 0) aNil)) (eOpN vTuple (aCons (eVar 1) aNil)))) (tsB (eOp2 vNe (eCall 1 f_right_worths (aCons (eVar 0) aNil)) (eOpN vTuple (aCons (eVar 1) aNil))))) (sRet (eC (.bl false))) sPass)
    (sSeq l2__law_program_right
    (sRet (eOp2 vEq (eCall 1 f_true_words (aCons (eVar 0) aNil)) (eOpN vTuple (aCons q3__law_program_right aNil)))))))))
def f__law_program_right : MF := mFn 6 m__law_program_right
def b1_law : MS :=
    (sTidy [2] (sIf (tNotM (tsB (eCall 1 f__law_program_right (aCons (eCall 2 f__law_program (aCons (eVar 1) (aCons (eC (.int 12)) aNil))) aNil)))) (sRet (eC (.bl false))) sPass))
def l1_law : MS :=
    (sFor (iRange1 (eC (.int 3))) (gName 2) b1_law)
def m_law : MS :=
    (sSeq (sSet 1 (eCall 1 f__law_begin (aCons (eVar 0) aNil)))
    (sSeq l1_law
    (sSeq (sPar2 3 4 (aCons (eCall 2 f__law_draw (aCons (eVar 1) (aCons (eC (.int 100)) aNil))) (aCons (eCall 2 f__law_draw (aCons (eVar 1) (aCons (eC (.int 100)) aNil))) aNil)))
    (sSeq (sIf (tOrM (tsB (eOp2 vNe (eCall 2 f_looks_alike (aCons (eVar 3) (aCons (eVar 4) aNil))) (eOp2 vEq (eOp2 vMod (eOpN vInt (aCons (eOp2 vSub (eVar 3) (eVar 4)) aNil)) (eC (.int 4))) (eC (.int 0))))) (tsB (eOp2 vNotN (eCall 2 f_looks_alike (aCons (eVar 3) (aCons (eVar 3) aNil))) (eC (.bl true))))) (sRet (eC (.bl false))) sPass)
    (sRet (eOp2 vEq (eOpN vLst (aCons (eCall 2 f_looks_alike (aCons (eC (.int 0)) (aCons (eC (.int 99)) aNil))) (aCons (eCall 2 f_looks_alike (aCons (eC (.int 3)) (aCons (eC (.int 99)) aNil))) (aCons (eCall 2 f_looks_alike (aCons (eC (.int 96)) (aCons (eC (.int 0)) aNil))) aNil)))) (eOpN vLst (aCons (eC (.bl false)) (aCons (eC (.bl true)) (aCons (eC (.bl true)) aNil))))))))))
def f_law : MF := mFn 5 m_law
end K01

set_option Elab.async false
set_option linter.all false
set_option maxRecDepth 100000
set_option maxHeartbeats 4000000
/-! programs -/
namespace DS
open PySem
inductive Sz | low | high | both
def Sz.s : Sz → Str | .low => "low" | .high => "high" | .both => "both"
def Sz.cells : Sz → List Int | .low => [0] | .high => [1] | .both => [0, 1]
inductive Spot | told (w : Int) | hung (k : Nat) (a b : Int)
def Spot.d : Spot → D
  | .told w => .tup [.str "told", .int w]
  | .hung k a b => .tup [.str "hung", .int k, .int a, .int b]
structure Acc where
  rd : Bool
  sz : Sz
  sp : Spot
def kdD (b : Bool) : D := if b then .str "read" else .str "write"
def Acc.d (a : Acc) : D := .tup [kdD a.rd, .str a.sz.s, a.sp.d]
def Spot.word : Spot → Int | .told w => w | .hung _ x _ => x
def Acc.word (a : Acc) : Int := a.sp.word
abbrev Pr := List Acc
def pD (p : Pr) : D := .tup (p.map Acc.d)
def wOk (w : Int) : Prop := 0 ≤ w ∧ w ≤ 99
def Spot.ok (p : Pr) (i : Nat) : Spot → Prop
  | .told w => wOk w
  | .hung k a b => k < i ∧ (∃ q, p[k]? = some q ∧ q.rd = true) ∧ wOk a ∧ wOk b
structure Good (p : Pr) : Prop where
  pos : 0 < p.length
  few : p.length ≤ 12
  ok : ∀ (i : Nat) (a : Acc), p[i]? = some a → a.sp.ok p i
theorem kd_low {n : Nat} (b : Bool) : dLow n (kdD b) = true := by cases b <;> rfl
theorem spot_low {n : Nat} (a : Spot) : dLow n a.d = true := by cases a <;> rfl
theorem acc_low {n : Nat} (a : Acc) : dLow n a.d = true := by
  show (dLow n (kdD a.rd) && (true && (dLow n a.sp.d && true))) = true
  rw [kd_low, spot_low]; rfl
theorem prog_low {n : Nat} (p : Pr) : dLow n (pD p) = true := by
  show dLows n (p.map Acc.d) = true
  rw [dLows_of, List.all_eq_true]
  intro d hd
  obtain ⟨a, _, rfl⟩ := List.mem_map.mp hd
  exact acc_low a
theorem ix_prog {p : Pr} {i : Nat} {a : Acc} {h : Hs} (hi : p[i]? = some a) : vIx (pD p) (.int (i : Int)) h = some (a.d, h) := ix_tup (by rw [List.getElem?_map, hi]; rfl)
theorem ix_acc0 {a : Acc} {h : Hs} : vIx a.d (.int 0) h = some (kdD a.rd, h) := rfl
theorem ix_acc1 {a : Acc} {h : Hs} : vIx a.d (.int 1) h = some (.str a.sz.s, h) := rfl
theorem ix_acc2 {a : Acc} {h : Hs} : vIx a.d (.int 2) h = some (a.sp.d, h) := rfl
theorem len_prog {p : Pr} {h : Hs} : vLen [pD p] h = some (.int p.length, h) := by
  show some (D.int ((p.map Acc.d).length : Nat), h) = _
  rw [List.length_map]
theorem vEq_str {x y : Str} {h : Hs} : vEq (.str x) (.str y) h = some (.bl (x == y), h) := rfl
theorem vNe_str {x y : Str} {h : Hs} : vNe (.str x) (.str y) h = some (.bl (!(x == y)), h) := rfl
theorem vEq_int {x y : Int} {h : Hs} : vEq (.int x) (.int y) h = some (.bl (x == y), h) := rfl
theorem vNe_int {x y : Int} {h : Hs} : vNe (.int x) (.int y) h = some (.bl (!(x == y)), h) := rfl
end DS
namespace K01
open DS PySem
variable {h : Hs}
theorem is_integer_int {i : Int} (hc : Cl h) : f_is_integer [.int i] h = .ok (.bl true) h := mFn_ret0 hc rfl rfl
theorem is_between_int {i a b : Int} (hc : Cl h) : f_is_between [.int i, .int a, .int b] h = .ok (.bl (decide (a ≤ i) && decide (i ≤ b))) h := by
  refine mFn_ret0 hc ?_ rfl
  show m_is_between [some (.int i), some (.int a), some (.int b)] h = _
  simp only [m_is_between, sSeq, sSet, sRet, sRetN, sIf, sPass, sExpr, sPar2, sAsg, tsB, tNotM, tAndM, tOrM, eAndM, eOrM, eNotM, eIfM, eOp1, eOp2, eOpN, eCall, DS.guard, aCons, aNil, eVar, eC, bind_ok, lft_some, ofR_ok, eIsi, Option.map_some, List.length_cons, List.length_nil, List.getElem?_cons_zero, List.getElem?_cons_succ, List.set_cons_zero, List.set_cons_succ, if_true, if_false, Bool.false_eq_true, Bool.not_true, Bool.not_false, Nat.reduceAdd, Nat.zero_add, reduceIte, is_integer_int hc, eChain, vLe]
  by_cases q : a ≤ i
  · simp only [decide_eq_true q, bind_ok, lft_some, ofR_ok, Bool.true_and]
  · simp only [decide_eq_false q, bind_ok, lft_some, ofR_ok, Bool.false_and]
theorem is_between_ok {i a b : Int} (hc : Cl h) (h1 : a ≤ i) (h2 : i ≤ b) : f_is_between [.int i, .int a, .int b] h = .ok (.bl true) h := by
  rw [is_between_int hc, decide_eq_true h1, decide_eq_true h2]; rfl
theorem is_word_ok {i : Int} (hc : Cl h) (hw : wOk i) : f_is_word [.int i] h = .ok (.bl true) h := by
  refine mFn_ret0 hc ?_ rfl
  show m_is_word [some (.int i)] h = _
  have e := is_between_ok (b := 99) hc hw.1 hw.2
  simp only [m_is_word, sSeq, sSet, sRet, sRetN, sIf, sPass, sExpr, sPar2, sAsg, tsB, tNotM, tAndM, tOrM, eAndM, eOrM, eNotM, eIfM, eOp1, eOp2, eOpN, eCall, DS.guard, aCons, aNil, eVar, eC, bind_ok, lft_some, ofR_ok, eIsi, Option.map_some, List.length_cons, List.length_nil, List.getElem?_cons_zero, List.getElem?_cons_succ, List.set_cons_zero, List.set_cons_succ, if_true, if_false, Bool.false_eq_true, Bool.not_true, Bool.not_false, Nat.reduceAdd, Nat.zero_add, reduceIte, c_MOST_WORD, e]
theorem one_of_kind (hc : Cl h) (b : Bool) : f_is_one_of [.tup [c_READ, c_WRITE], kdD b] h = .ok (.bl true) h := mFn_ret0 hc (by cases b <;> kernel_rfl) rfl
theorem one_of_size (hc : Cl h) (z : Sz) : f_is_one_of [.tup [c_LOW, c_HIGH, c_BOTH], .str z.s] h = .ok (.bl true) h := mFn_ret0 hc (by cases z <;> kernel_rfl) rfl
theorem kd_str (b : Bool) : ∃ x, kdD b = .str x := by cases b <;> exact ⟨_, rfl⟩
theorem e_told_told : (("told" : Str) == ("told" : Str)) = true := by decide +kernel
theorem e_hung_told : (("hung" : Str) == ("told" : Str)) = false := by decide +kernel
theorem e_hung_hung : (("hung" : Str) == ("hung" : Str)) = true := by decide +kernel
theorem kd_read {h : Hs} (b : Bool) : vEq (kdD b) c_READ h = some (.bl b, h) := by cases b <;> kernel_rfl
theorem kd_write {h : Hs} (b : Bool) : vEq (kdD b) c_WRITE h = some (.bl (!b), h) := by cases b <;> kernel_rfl
theorem spot_isi {T : Ty} {h : Hs} (s : Spot) : isiD T s.d h = some (match T with | .tup => true | _ => false) := by cases s <;> rfl
theorem spot_nil {h : Hs} (s : Spot) : vEq s.d (.tup []) h = some (.bl false, h) := by cases s <;> kernel_rfl
theorem isi_str {x : Str} : isiD .str (.str x) h = some true := rfl
theorem is_place_ok {p : Pr} {i : Nat} {a : Acc} (hc : Cl h) (hi : p[i]? = some a) (ok : a.sp.ok p i) : f_is_place [pD p, .int i] h = .ok (.bl true) h := by
  refine mFn_ret0 hc ?_ rfl
  show m_is_place [some (pD p), some (.int i), none] h = _
  have t0 : vTup [] h = some (.tup [], h) := rfl
  cases hs : a.sp with
  | told w =>
    rw [hs] at ok
    have e0 : vIx (Spot.told w).d (.int 0) h = some (.str "told", h) := rfl
    have e1 : vIx (Spot.told w).d (.int 1) h = some (.int w, h) := rfl
    have l : vLen [(Spot.told w).d] h = some (.int 2, h) := rfl
    simp only [m_is_place, sSeq, sSet, sRet, sRetN, sIf, sPass, sExpr, sPar2, sAsg, tsB, tNotM, tAndM, tOrM, eAndM, eOrM, eNotM, eIfM, eOp1, eOp2, eOpN, eCall, DS.guard, aCons, aNil, eVar, eC, bind_ok, lft_some, ofR_ok, eIsi, Option.map_some, List.length_cons, List.length_nil, List.getElem?_cons_zero, List.getElem?_cons_succ, List.set_cons_zero, List.set_cons_succ, if_true, if_false, Bool.false_eq_true, Bool.not_true, Bool.not_false, Nat.reduceAdd, Nat.zero_add, reduceIte, ix_prog hi, ix_acc2, hs, spot_isi, isi_str, spot_nil, t0, e0, e1, l, c_TOLD, vEq_str, e_told_told, vEq_int, is_word_ok hc ok, BEq.rfl]
  | hung k x y =>
    rw [hs] at ok
    obtain ⟨hk, ⟨q, hq, hr⟩, hx, hy⟩ := ok
    have e0 : vIx (Spot.hung k x y).d (.int 0) h = some (.str "hung", h) := rfl
    have e1 : vIx (Spot.hung k x y).d (.int 1) h = some (.int k, h) := rfl
    have e2 : vIx (Spot.hung k x y).d (.int 2) h = some (.int x, h) := rfl
    have e3 : vIx (Spot.hung k x y).d (.int 3) h = some (.int y, h) := rfl
    have l : vLen [(Spot.hung k x y).d] h = some (.int 4, h) := rfl
    have bt := is_between_ok (h := h) (i := (k : Int)) (a := 0) (b := (i : Int) - 1) hc (by omega) (by omega)
    simp only [m_is_place, sSeq, sSet, sRet, sRetN, sIf, sPass, sExpr, sPar2, sAsg, tsB, tNotM, tAndM, tOrM, eAndM, eOrM, eNotM, eIfM, eOp1, eOp2, eOpN, eCall, DS.guard, aCons, aNil, eVar, eC, bind_ok, lft_some, ofR_ok, eIsi, Option.map_some, List.length_cons, List.length_nil, List.getElem?_cons_zero, List.getElem?_cons_succ, List.set_cons_zero, List.set_cons_succ, if_true, if_false, Bool.false_eq_true, Bool.not_true, Bool.not_false, Nat.reduceAdd, Nat.zero_add, reduceIte, ix_prog hi, ix_acc2, hs, spot_isi, isi_str, spot_nil, t0, e0, e1, e2, e3, l, c_TOLD, c_HUNG, vEq_str, vNe_str, e_hung_told, e_hung_hung, vNe_int, vSub_int, bt, ix_prog hq, ix_acc0, kd_read, hr, is_word_ok hc hx, is_word_ok hc hy, BEq.rfl]
theorem enumD_map {α : Type} {f : α → D} : ∀ (xs : List α) (i : Nat), enumD (xs.map f) i = (xs.zipIdx i).map fun (q : α × Nat) => .tup [.int q.2, f q.1]
  | [], _ => rfl
  | x :: r, i => by
    rw [List.map_cons, enumD, List.zipIdx_cons, List.map_cons, enumD_map r (i + 1)]
theorem need_env {p : Pr} : eLow h.length [some (pD p), none, none] = true := by rw [eLow_some, prog_low]; rfl
theorem need_l1 {p : Pr} (hc : Cl h) : l1_need_program [some (pD p), none, none] h = .nx [some (pD p), none, none] h := by
  rw [l1_need_program, for_enumL (xs := p.map Acc.d) (h1 := h) rfl, enumD_map]
  refine forL_same _ fun q hq => ⟨[some (pD p), some (.int q.2), some q.1.d], h, rfl, ?_⟩
  unfold b1_need_program
  refine tidy_nx0 (e1 := [some (pD p), some (.int q.2), some q.1.d]) ?_ rfl hc need_env
  have i1 : isiD .tup q.1.d h = some true := rfl
  have i2 : vLen [q.1.d] h = some (.int 3, h) := rfl
  simp only [sSeq, sSet, sRet, sRetN, sIf, sPass, sExpr, sPar2, sAsg, tsB, tNotM, tAndM, tOrM, eAndM, eOrM, eNotM, eIfM, eOp1, eOp2, eOpN, eCall, DS.guard, aCons, aNil, eVar, eC, bind_ok, lft_some, ofR_ok, eIsi, Option.map_some, List.length_cons, List.length_nil, List.getElem?_cons_zero, List.getElem?_cons_succ, List.set_cons_zero, List.set_cons_succ, if_true, if_false, Bool.false_eq_true, Bool.not_true, Bool.not_false, Nat.reduceAdd, Nat.zero_add, reduceIte, i1, i2, vNe_int, vTup_ok (show [c_READ, c_WRITE].length ≤ 100000 by decide), vTup_ok (show [c_LOW, c_HIGH, c_BOTH].length ≤ 100000 by decide), ix_acc0, ix_acc1, one_of_kind hc, one_of_size hc, BEq.rfl]
theorem rOk_nat {i : Nat} (hi : i ≤ 1000) : rOk (i : Int) = true := Nat.ble_eq_true_of_le (show (i : Int).natAbs ≤ _ by omega)
theorem iter_rng {i : Nat} {e : ME} {env : En} {h1 : Hs} (he : e env h = .ok (.int (i : Int)) h1) (hi : i ≤ 1000) : iRange1 e env h = .ok (.rng 0 i) h1 := by
  unfold iRange1
  rw [he]
  simp only [bind_ok]
  rw [if_pos (rOk_nat hi)]
  rfl
theorem need_l2 {p : Pr} (hc : Cl h) (g : Good p) : l2_need_program [some (pD p), none, none] h = .nx [some (pD p), none, none] h := by
  rw [l2_need_program, for_rngL (iter_rng (i := p.length) (h1 := h) (by simp only [sSeq, sSet, sRet, sRetN, sIf, sPass, sExpr, sPar2, sAsg, tsB, tNotM, tAndM, tOrM, eAndM, eOrM, eNotM, eIfM, eOp1, eOp2, eOpN, eCall, DS.guard, aCons, aNil, eVar, eC, bind_ok, lft_some, ofR_ok, eIsi, Option.map_some, List.length_cons, List.length_nil, List.getElem?_cons_zero, List.getElem?_cons_succ, List.set_cons_zero, List.set_cons_succ, if_true, if_false, Bool.false_eq_true, Bool.not_true, Bool.not_false, Nat.reduceAdd, Nat.zero_add, reduceIte, len_prog]) (by have := g.few; omega)), ints0]
  refine forL_same _ fun q hq => ⟨[some (pD p), some (.int q), none], h, rfl, ?_⟩
  unfold b2_need_program
  refine tidy_nx0 (e1 := [some (pD p), some (.int q), none]) ?_ rfl hc need_env
  have hlt : q < p.length := List.mem_range.mp hq
  have hq2 : p[q]? = some p[q] := List.getElem?_eq_getElem hlt
  simp only [sSeq, sSet, sRet, sRetN, sIf, sPass, sExpr, sPar2, sAsg, tsB, tNotM, tAndM, tOrM, eAndM, eOrM, eNotM, eIfM, eOp1, eOp2, eOpN, eCall, DS.guard, aCons, aNil, eVar, eC, bind_ok, lft_some, ofR_ok, eIsi, Option.map_some, List.length_cons, List.length_nil, List.getElem?_cons_zero, List.getElem?_cons_succ, List.set_cons_zero, List.set_cons_succ, if_true, if_false, Bool.false_eq_true, Bool.not_true, Bool.not_false, Nat.reduceAdd, Nat.zero_add, reduceIte, is_place_ok hc hq2 (g.ok q _ hq2)]
theorem need_program_ok {p : Pr} (hc : Cl h) (g : Good p) : f_need_program [pD p] h = .ok (pD p) h := by
  refine mFn_ret0 hc ?_ (prog_low p)
  show m_need_program [some (pD p), none, none] h = _
  have l1 : (1 : Int) ≤ p.length := by have := g.pos; omega
  have l2 : (p.length : Int) ≤ 12 := by have := g.few; omega
  have i0 : isiD .tup (pD p) h = some true := rfl
  simp only [m_need_program, sSeq, sSet, sRet, sRetN, sIf, sPass, sExpr, sPar2, sAsg, tsB, tNotM, tAndM, tOrM, eAndM, eOrM, eNotM, eIfM, eOp1, eOp2, eOpN, eCall, DS.guard, aCons, aNil, eVar, eC, bind_ok, lft_some, ofR_ok, eIsi, Option.map_some, List.length_cons, List.length_nil, List.getElem?_cons_zero, List.getElem?_cons_succ, List.set_cons_zero, List.set_cons_succ, if_true, if_false, Bool.false_eq_true, Bool.not_true, Bool.not_false, Nat.reduceAdd, Nat.zero_add, reduceIte, i0, len_prog, eChain, vLe, c_MOST_ACCESSES, decide_eq_true l1, decide_eq_true l2, need_l1 hc, need_l2 hc g]
end K01

set_option Elab.async false
set_option linter.all false
set_option maxRecDepth 100000
set_option maxHeartbeats 4000000
namespace DS
open PySem
def mk (p : Pr) (i : Nat) (c : Int) (o : Nat) : Bool := match p[o]?, p[i]? with
  | some q, some a => !q.rd && (q.word == a.word && q.sz.cells.contains c)
  | _, _ => false
def writesOf (p : Pr) (i : Nat) (c : Int) : List Int := ((List.range i).filter (mk p i c)).map fun (o : Nat) => (o : Int)
def young (ns : List Int) (w : Int) : Int := if ns.isEmpty then -1 - w else maxI ns
def worth (p : Pr) (i : Nat) (a : Acc) : List Int := a.sz.cells.map fun c => young (writesOf p i c) a.word
def rightD (p : Pr) (q : Acc × Nat) : D := if q.1.rd then .tup ((worth p q.2 q.1).map .int) else .non
def wordsD (p : Pr) : List D := p.map fun a => .int a.word
theorem words_low {n : Nat} (p : Pr) : oLow n (.lst (wordsD p)) = true := by
  show dLows n (wordsD p) = true
  rw [dLows_of, List.all_eq_true]
  intro d hd
  obtain ⟨a, _, rfl⟩ := List.mem_map.mp hd
  rfl
theorem words_at {p : Pr} {i : Nat} {a : Acc} (hi : p[i]? = some a) : (wordsD p)[i]? = some (.int a.word) := by
  unfold wordsD; rw [List.getElem?_map, hi]; rfl
theorem right_low {n : Nat} (p : Pr) (q : Acc × Nat) : dLow n (rightD p q) = true := by
  unfold rightD
  split
  · exact ints_low
  · rfl
theorem max_range (t : Nat → Bool) (w : Int) : ∀ n : Nat, (if (((List.range n).filter t).map fun (o : Nat) => (o : Int)).isEmpty then w else maxI (((List.range n).filter t).map fun (o : Nat) => (o : Int))) = (List.range n).foldl (fun m o => if t o = true then (o : Int) else m) w
  | 0 => rfl
  | n + 1 => by
    rw [List.range_succ, List.foldl_append, ← max_range t w n, List.filter_append, List.map_append]
    show _ = if t n = true then (n : Int) else _
    cases q : t n with
    | false =>
      rw [List.filter_cons_of_neg (by rw [q]; decide)]
      simp only [List.filter_nil, List.map_nil, List.append_nil]
      rfl
    | true =>
      rw [List.filter_cons_of_pos q, if_pos rfl]
      simp only [List.filter_nil, List.map_cons, List.map_nil]
      rw [if_neg (by simp)]
      have hb : ∀ y ∈ ((List.range n).filter t).map (fun (o : Nat) => (o : Int)), y < n := by
        intro y hy
        obtain ⟨o, ho, rfl⟩ := List.mem_map.mp hy
        have := List.mem_range.mp (List.mem_filter.mp ho).1
        omega
      generalize ((List.range n).filter t).map (fun (o : Nat) => (o : Int)) = xs at hb
      cases xs with
      | nil => rfl
      | cons x r =>
        show (r ++ [(n : Int)]).foldl max x = n
        rw [List.foldl_append]
        show max (r.foldl max x) n = n
        obtain ⟨h1, h2, h3⟩ := foldl_max r x
        have : r.foldl max x < n := by
          rcases h1 with h1 | h1
          · rw [h1]; exact hb x List.mem_cons_self
          · exact hb _ (List.mem_cons_of_mem _ h1)
        omega
theorem young_fold (p : Pr) (i : Nat) (c w : Int) : young (writesOf p i c) w = (List.range i).foldl (fun m o => if mk p i c o = true then (o : Int) else m) (-1 - w) := by
  rw [← max_range]; rfl
/-- whether age hangs on elder -/
def hangs (p : Pr) (elder age : Nat) : Bool := match p[age]? with
  | some ⟨_, _, .hung k _ _⟩ => if k < age then (k == elder || hangs p elder k) else false
  | _ => false
termination_by age
theorem hangs_lt (p : Pr) (elder : Nat) : ∀ (n age : Nat), age < n → hangs p elder age = true → elder < age
  | 0, _, h, _ => by omega
  | n + 1, age, h, e => by
    unfold hangs at e
    split at e
    · rename_i k _ _ _
      split at e
      · rename_i hk
        rw [Bool.or_eq_true] at e
        rcases e with e | e
        · have := beq_iff_eq.mp e; omega
        · have := hangs_lt p elder n k (by omega) e; omega
      · cases e
    · cases e
end DS
namespace K01
open DS PySem
variable {h : Hs}
theorem cells_of_ok (hc : Cl h) (a : Acc) : f_cells_of [a.d] h = .ok (.tup (a.sz.cells.map .int)) h := by
  obtain ⟨r, z, sp⟩ := a
  refine mFn_ret0 hc ?_ ints_low
  cases z <;> kernel_rfl
theorem first_worth_ok {w : Int} (hc : Cl h) : f_first_worth [.int w] h = .ok (.int (-1 - w)) h := mFn_ret0 hc rfl rfl
theorem kd_told (s : Spot) : vIx s.d (.int 0) h = some (.str (match s with | .told _ => "told" | .hung _ _ _ => "hung"), h) := by cases s <;> rfl
theorem true_in_ok {p : Pr} (hc : Cl h) (hp : p.length ≤ 12) : f_true_in [pD p] h = .ok (.ref h.length) (h ++ [.lst (wordsD p)]) := by
  have e : m_true_in [some (pD p), none, none, none] h = .ret (.ref h.length) (h ++ [.lst (wordsD p)]) := by
    unfold m_true_in q1_true_in
    unfold sRet
    rw [comp_tup p Acc.d (fun _ => true) (fun a => .int a.word) rfl (by omega) fun a _ => ⟨[some (pD p), some (kdD a.rd), some (.str a.sz.s), some a.sp.d], rfl, rfl, fun _ => gc_pure ?_ hc rfl⟩, filter_all]
    · rfl
    · cases hs : a.sp with
      | told w =>
        have e1 : vIx (Spot.told w).d (.int 1) h = some (.int w, h) := rfl
        simp only [sSeq, sSet, sRet, sRetN, sIf, sPass, sExpr, sPar2, sAsg, tsB, tNotM, tAndM, tOrM, eAndM, eOrM, eNotM, eIfM, eOp1, eOp2, eOpN, eCall, DS.guard, aCons, aNil, eVar, eC, bind_ok, lft_some, ofR_ok, eIsi, Option.map_some, List.length_cons, List.length_nil, List.getElem?_cons_zero, List.getElem?_cons_succ, List.set_cons_zero, List.set_cons_succ, if_true, if_false, Bool.false_eq_true, Bool.not_true, Bool.not_false, Nat.reduceAdd, Nat.zero_add, reduceIte, kd_told, c_TOLD, vEq_str, e_told_told, e1, Acc.word, hs, Spot.word]
      | hung k x y =>
        have e1 : vIx (Spot.hung k x y).d (.int 2) h = some (.int x, h) := rfl
        simp only [sSeq, sSet, sRet, sRetN, sIf, sPass, sExpr, sPar2, sAsg, tsB, tNotM, tAndM, tOrM, eAndM, eOrM, eNotM, eIfM, eOp1, eOp2, eOpN, eCall, DS.guard, aCons, aNil, eVar, eC, bind_ok, lft_some, ofR_ok, eIsi, Option.map_some, List.length_cons, List.length_nil, List.getElem?_cons_zero, List.getElem?_cons_succ, List.set_cons_zero, List.set_cons_succ, if_true, if_false, Bool.false_eq_true, Bool.not_true, Bool.not_false, Nat.reduceAdd, Nat.zero_add, reduceIte, kd_told, c_TOLD, vEq_str, e_hung_told, e1, Acc.word, hs, Spot.word]
  exact mFn_new (h1 := h) (r := [.lst (wordsD p)]) e rfl hc (Nat.le_refl _) app_get0 (words_low p)
theorem youngest_ok {n : Nat} {ns : List Int} {w : Int} (hc : Cl h) (hn : h[n]? = some (.lst (ns.map .int))) : f_youngest [.ref n, .int w] h = .ok (.int (young ns w)) h := by
  refine mFn_ret (r := [.lst []]) ?_ rfl hc rfl
  show m_youngest [some (.ref n), some (.int w)] h = _
  have hn2 : (h ++ [.lst []])[n]? = some (.lst (ns.map .int)) := by rw [List.getElem?_append_left (List.getElem?_eq_some_iff.mp hn).1, hn]
  have hc2 : Cl (h ++ [.lst []]) := hc.app0 rfl
  have ie : ∀ ms : List Int, intsOf (ms.map .int) = some ms := by
    intro ms
    induction ms with
    | nil => rfl
    | cons m r ih => rw [List.map_cons]; simp only [intsOf, ih, Option.map_some]
  cases ns with
  | nil =>
    simp only [m_youngest, sSeq, sSet, sRet, sRetN, sIf, sPass, sExpr, sPar2, sAsg, tsB, tNotM, tAndM, tOrM, eAndM, eOrM, eNotM, eIfM, eOp1, eOp2, eOpN, eCall, DS.guard, aCons, aNil, eVar, eC, bind_ok, lft_some, ofR_ok, eIsi, Option.map_some, List.length_cons, List.length_nil, List.getElem?_cons_zero, List.getElem?_cons_succ, List.set_cons_zero, List.set_cons_succ, if_true, if_false, Bool.false_eq_true, Bool.not_true, Bool.not_false, Nat.reduceAdd, Nat.zero_add, reduceIte, vLst_nil, ne_nil hn okN_ints, List.map_nil, List.isEmpty_nil, first_worth_ok hc2, young]
  | cons x r =>
    have mx : vMax [.ref n] (h ++ [.lst []]) = some (.int (maxI (x :: r)), h ++ [.lst []]) := by
      show (match (listOf1 (.ref n) (h ++ [O.lst []])).bind intsOf with | some (x :: r) => some (D.int (maxI (x :: r)), h ++ [O.lst []]) | _ => none) = _
      have : listOf1 (.ref n) (h ++ [.lst []]) = some ((x :: r).map .int) := by
        show ((h ++ [.lst []])[n]?).bind lsO = _
        rw [hn2]; rfl
      rw [this, Option.bind_some, ie]
    simp only [m_youngest, sSeq, sSet, sRet, sRetN, sIf, sPass, sExpr, sPar2, sAsg, tsB, tNotM, tAndM, tOrM, eAndM, eOrM, eNotM, eIfM, eOp1, eOp2, eOpN, eCall, DS.guard, aCons, aNil, eVar, eC, bind_ok, lft_some, ofR_ok, eIsi, Option.map_some, List.length_cons, List.length_nil, List.getElem?_cons_zero, List.getElem?_cons_succ, List.set_cons_zero, List.set_cons_succ, if_true, if_false, Bool.false_eq_true, Bool.not_true, Bool.not_false, Nat.reduceAdd, Nat.zero_add, reduceIte, vLst_nil, ne_nil hn okN_ints, List.map_cons, List.isEmpty_cons, mx, young]
/-- right_in's innermost loop -/
theorem right_l1 {p : Pr} {i : Nat} {a : Acc} {c : Int} {st : List D} {w : List Int} (hc : Cl h) (hi : p[i]? = some a) (hp : p.length ≤ 12) (hst : dLows 0 st = true) :
    l1_right_in [some (pD p), some (.ref h.length), some (.ref (h.length + 1)), some (.int i), some a.d, some (.ref (h.length + 2)), some (.int c), some (.ref (h.length + 3)), none] (h ++ [.lst (wordsD p), .lst st, .lst (w.map .int), .lst []]) =
    .nx [some (pD p), some (.ref h.length), some (.ref (h.length + 1)), some (.int i), some a.d, some (.ref (h.length + 2)), some (.int c), some (.ref (h.length + 3)), none] (h ++ [.lst (wordsD p), .lst st, .lst (w.map .int), .lst ((writesOf p i c).map .int)]) := by
  have hlt : i < p.length := (List.getElem?_eq_some_iff.mp hi).1
  unfold l1_right_in
  rw [for_rngL (iter_rng (i := i) rfl (by omega)), ints0]
  have key := forL_foldI (g := gName 8) (body := b1_right_in) (fun _ => [some (pD p), some (.ref h.length), some (.ref (h.length + 1)), some (.int i), some a.d, some (.ref (h.length + 2)), some (.int c), some (.ref (h.length + 3)), none])
    (fun (ws : List Int) => h ++ [.lst (wordsD p), .lst st, .lst (w.map .int), .lst (ws.map .int)]) (fun (o : Nat) => D.int (o : Int)) (fun ws o => if mk p i c o = true then ws ++ [(o : Int)] else ws) (fun k ws => ws.length ≤ k) (List.range i) [] (Nat.le_refl _) ?_
  · rw [foldl_filt] at key
    simp only [List.map_nil, List.nil_append] at key
    exact key.1
  · intro k ws o ho hk
    have ho2 := List.getElem?_eq_some_iff.mp ho
    obtain ⟨hk2, ho3⟩ := ho2
    rw [List.getElem_range] at ho3
    subst ho3
    rw [List.length_range] at hk2
    refine ⟨by split <;> (try simp only [List.length_append, List.length_cons, List.length_nil]) <;> omega, [some (pD p), some (.ref h.length), some (.ref (h.length + 1)), some (.int i), some a.d, some (.ref (h.length + 2)), some (.int c), some (.ref (h.length + 3)), some (.int k)], _, rfl, ?_⟩
    have hc2 : ∀ ws : List Int, Cl (h ++ [.lst (wordsD p), .lst st, .lst (w.map .int), .lst (ws.map .int)]) := fun ws => hc.app0 (by simp only [List.all_cons, List.all_nil, words_low, oLow_ints, Bool.and_true, Bool.true_and]; exact hst)
    have hq : p[k]? = some p[k] := List.getElem?_eq_getElem (by omega)
    generalize p[k] = q at hq
    have m : mk p i c k = (!q.rd && (q.word == a.word && q.sz.cells.contains c)) := by unfold mk; rw [hq, hi]
    have hE : eLow (h ++ [O.lst (wordsD p), O.lst st, O.lst (w.map D.int), O.lst (ws.map D.int)]).length [some (pD p), some (.ref h.length), some (.ref (h.length + 1)), some (.int i), some a.d, some (.ref (h.length + 2)), some (.int c), some (.ref (h.length + 3)), none] = true := by
      simp only [eLow_some, eLow_none, eLow_nil, dLow, List.length_append, List.length_cons, List.length_nil, prog_low, acc_low, kd_low, spot_low, ints_low, Bool.true_and, Bool.and_true, Bool.and_eq_true, decide_eq_true_eq, true_and, and_true]
      omega
    have g0 : (h ++ [O.lst (wordsD p), O.lst st, O.lst (w.map D.int), O.lst (ws.map D.int)])[h.length]? = some (.lst (wordsD p)) := app_get0
    have g3 : (h ++ [O.lst (wordsD p), O.lst st, O.lst (w.map D.int), O.lst (ws.map D.int)])[h.length + 3]? = some (.lst (ws.map D.int)) := app_get
    have t3 : (h ++ [O.lst (wordsD p), O.lst st, O.lst (w.map D.int), O.lst (ws.map D.int)]).set (h.length + 3) (O.lst (ws.map D.int ++ [D.int k])) = (h ++ [.lst (wordsD p), .lst st, .lst (w.map .int), .lst ((ws ++ [(k : Int)]).map D.int)]) := by rw [app_set, List.map_append]; rfl
    unfold b1_right_in
    by_cases hm : mk p i c k = true
    · rw [if_pos hm]
      refine tidy_nx0 (e1 := [some (pD p), some (.ref h.length), some (.ref (h.length + 1)), some (.int i), some a.d, some (.ref (h.length + 2)), some (.int c), some (.ref (h.length + 3)), some (.int k)]) ?_ (by simp) (hc2 _) hE
      rw [m] at hm
      simp only [Bool.and_eq_true] at hm
      simp only [sSeq, sSet, sRet, sRetN, sIf, sPass, sExpr, sPar2, sAsg, tsB, tNotM, tAndM, tOrM, eAndM, eOrM, eNotM, eIfM, eOp1, eOp2, eOpN, eCall, DS.guard, aCons, aNil, eVar, eC, bind_ok, lft_some, ofR_ok, eIsi, Option.map_some, List.length_cons, List.length_nil, List.getElem?_cons_zero, List.getElem?_cons_succ, List.set_cons_zero, List.set_cons_succ, if_true, if_false, Bool.false_eq_true, Bool.not_true, Bool.not_false, Nat.reduceAdd, Nat.zero_add, reduceIte, ix_prog hq, ix_acc0, kd_write, hm.1, ix_ref g0 (words_at hq), ix_ref g0 (words_at hi), vEq_int, hm.2.1, cells_of_ok (hc2 ws), in_ints, hm.2.2, eMethL, isL_ref g3, append_ok g3 (show (ws.map D.int).length < 100000 by rw [List.length_map]; omega), t3]
    · rw [if_neg hm]
      refine tidy_nx0 (e1 := [some (pD p), some (.ref h.length), some (.ref (h.length + 1)), some (.int i), some a.d, some (.ref (h.length + 2)), some (.int c), some (.ref (h.length + 3)), some (.int k)]) ?_ rfl (hc2 _) hE
      rw [m] at hm
      simp only [sSeq, sSet, sRet, sRetN, sIf, sPass, sExpr, sPar2, sAsg, tsB, tNotM, tAndM, tOrM, eAndM, eOrM, eNotM, eIfM, eOp1, eOp2, eOpN, eCall, DS.guard, aCons, aNil, eVar, eC, bind_ok, lft_some, ofR_ok, eIsi, Option.map_some, List.length_cons, List.length_nil, List.getElem?_cons_zero, List.getElem?_cons_succ, List.set_cons_zero, List.set_cons_succ, if_true, if_false, Bool.false_eq_true, Bool.not_true, Bool.not_false, Nat.reduceAdd, Nat.zero_add, reduceIte, ix_prog hq, ix_acc0, kd_write, ix_ref g0 (words_at hq), ix_ref g0 (words_at hi), vEq_int, cells_of_ok (hc2 ws), in_ints]
      cases e1 : !q.rd with
      | false => simp only [sSeq, sSet, sRet, sRetN, sIf, sPass, sExpr, sPar2, sAsg, tsB, tNotM, tAndM, tOrM, eAndM, eOrM, eNotM, eIfM, eOp1, eOp2, eOpN, eCall, DS.guard, aCons, aNil, eVar, eC, bind_ok, lft_some, ofR_ok, eIsi, Option.map_some, List.length_cons, List.length_nil, List.getElem?_cons_zero, List.getElem?_cons_succ, List.set_cons_zero, List.set_cons_succ, if_true, if_false, Bool.false_eq_true, Bool.not_true, Bool.not_false, Nat.reduceAdd, Nat.zero_add, reduceIte]
      | true =>
        cases e2 : q.word == a.word with
        | false => simp only [sSeq, sSet, sRet, sRetN, sIf, sPass, sExpr, sPar2, sAsg, tsB, tNotM, tAndM, tOrM, eAndM, eOrM, eNotM, eIfM, eOp1, eOp2, eOpN, eCall, DS.guard, aCons, aNil, eVar, eC, bind_ok, lft_some, ofR_ok, eIsi, Option.map_some, List.length_cons, List.length_nil, List.getElem?_cons_zero, List.getElem?_cons_succ, List.set_cons_zero, List.set_cons_succ, if_true, if_false, Bool.false_eq_true, Bool.not_true, Bool.not_false, Nat.reduceAdd, Nat.zero_add, reduceIte]
        | true =>
          cases e3 : q.sz.cells.contains c with
          | false => simp only [sSeq, sSet, sRet, sRetN, sIf, sPass, sExpr, sPar2, sAsg, tsB, tNotM, tAndM, tOrM, eAndM, eOrM, eNotM, eIfM, eOp1, eOp2, eOpN, eCall, DS.guard, aCons, aNil, eVar, eC, bind_ok, lft_some, ofR_ok, eIsi, Option.map_some, List.length_cons, List.length_nil, List.getElem?_cons_zero, List.getElem?_cons_succ, List.set_cons_zero, List.set_cons_succ, if_true, if_false, Bool.false_eq_true, Bool.not_true, Bool.not_false, Nat.reduceAdd, Nat.zero_add, reduceIte]
          | true => rw [e1, e2, e3] at hm; exact absurd rfl hm
theorem iter_tup {xs : List D} {e : ME} {env : En} {h1 : Hs} (he : e env h = .ok (.tup xs) h1) : iSeq e env h = .ok (.one (.st xs)) h1 := by
  unfold iSeq
  rw [he]
  rfl
theorem app3 {a b c d : O} : h ++ [a, b, c, d] = (h ++ [a, b, c]) ++ [d] := by rw [List.append_assoc]; rfl
theorem app2 {a b c : O} : h ++ [a, b, c] = (h ++ [a, b]) ++ [c] := by rw [List.append_assoc]; rfl
theorem app1 {a b : O} : h ++ [a, b] = (h ++ [a]) ++ [b] := by rw [List.append_assoc]; rfl
theorem right_l2 {p : Pr} {i : Nat} {a : Acc} {st : List D} (hc : Cl h) (hi : p[i]? = some a) (hp : p.length ≤ 12) (hst : dLows 0 st = true) :
    l2_right_in [some (pD p), some (.ref h.length), some (.ref (h.length + 1)), some (.int i), some a.d, some (.ref (h.length + 2)), none, none, none] (h ++ [.lst (wordsD p), .lst st, .lst []]) =
    .nx [some (pD p), some (.ref h.length), some (.ref (h.length + 1)), some (.int i), some a.d, some (.ref (h.length + 2)), none, none, none] (h ++ [.lst (wordsD p), .lst st, .lst ((worth p i a).map .int)]) := by
  have hc3 : ∀ w : List Int, Cl (h ++ [.lst (wordsD p), .lst st, .lst (w.map .int)]) := fun w => hc.app0 (by simp only [List.all_cons, List.all_nil, words_low, oLow_ints, Bool.and_true, Bool.true_and]; exact hst)
  have hc4 : ∀ w ws : List Int, Cl (h ++ [.lst (wordsD p), .lst st, .lst (w.map .int), .lst (ws.map .int)]) := fun w ws => hc.app0 (by simp only [List.all_cons, List.all_nil, words_low, oLow_ints, Bool.and_true, Bool.true_and]; exact hst)
  unfold l2_right_in
  rw [for_tupL (iter_tup (h1 := h ++ [.lst (wordsD p), .lst st, .lst []]) (xs := a.sz.cells.map .int) (by simp only [sSeq, sSet, sRet, sRetN, sIf, sPass, sExpr, sPar2, sAsg, tsB, tNotM, tAndM, tOrM, eAndM, eOrM, eNotM, eIfM, eOp1, eOp2, eOpN, eCall, DS.guard, aCons, aNil, eVar, eC, bind_ok, lft_some, ofR_ok, eIsi, Option.map_some, List.length_cons, List.length_nil, List.getElem?_cons_zero, List.getElem?_cons_succ, List.set_cons_zero, List.set_cons_succ, if_true, if_false, Bool.false_eq_true, Bool.not_true, Bool.not_false, Nat.reduceAdd, Nat.zero_add, reduceIte, cells_of_ok (hc3 []), List.map_nil] ; exact cells_of_ok (hc3 []) a))]
  have key := forL_foldI (g := gName 6) (body := b2_right_in) (fun _ => [some (pD p), some (.ref h.length), some (.ref (h.length + 1)), some (.int i), some a.d, some (.ref (h.length + 2)), none, none, none])
    (fun (w : List Int) => h ++ [.lst (wordsD p), .lst st, .lst (w.map .int)]) D.int (fun w c => w ++ [young (writesOf p i c) a.word]) (fun k w => w.length = k) a.sz.cells [] rfl ?_
  · rw [foldl_snoc] at key
    simp only [List.map_nil, List.nil_append] at key
    exact key.1
  · intro k w c hcc hk
    have hk2 : k < 2 := by
      have := (List.getElem?_eq_some_iff.mp hcc).1
      have h2 : a.sz.cells.length ≤ 2 := by cases a.sz <;> decide
      omega
    refine ⟨by simp [hk], [some (pD p), some (.ref h.length), some (.ref (h.length + 1)), some (.int i), some a.d, some (.ref (h.length + 2)), some (.int c), none, none], _, rfl, ?_⟩
    unfold b2_right_in
    have g0 : (h ++ [O.lst (wordsD p), O.lst st, O.lst (w.map D.int), O.lst ((writesOf p i c).map D.int)])[h.length]? = some (.lst (wordsD p)) := app_get0
    have g3 : (h ++ [O.lst (wordsD p), O.lst st, O.lst (w.map D.int), O.lst ((writesOf p i c).map D.int)])[h.length + 3]? = some (.lst ((writesOf p i c).map D.int)) := app_get
    have g2 : (h ++ [O.lst (wordsD p), O.lst st, O.lst (w.map D.int), O.lst ((writesOf p i c).map D.int)])[h.length + 2]? = some (.lst (w.map D.int)) := app_get
    have t2 : (h ++ [O.lst (wordsD p), O.lst st, O.lst (w.map D.int), O.lst ((writesOf p i c).map D.int)]).set (h.length + 2) (O.lst (w.map D.int ++ [D.int (young (writesOf p i c) a.word)])) = h ++ [O.lst (wordsD p), O.lst st, O.lst ((w ++ [young (writesOf p i c) a.word]).map D.int), O.lst ((writesOf p i c).map D.int)] := by rw [app_set, List.map_append]; rfl
    refine tidy_nx (r := [O.lst ((writesOf p i c).map D.int)]) (e1 := [some (pD p), some (.ref h.length), some (.ref (h.length + 1)), some (.int i), some a.d, some (.ref (h.length + 2)), some (.int c), some (.ref (h.length + 3)), none]) ?_ (by simp) (hc3 _) (by
      show eLow _ [some (pD p), some (D.ref h.length), some (D.ref (h.length + 1)), some (D.int i), some a.d, some (D.ref (h.length + 2)), none, none, none] = true
      simp only [eLow_some, eLow_none, eLow_nil, dLow, List.length_append, List.length_cons, List.length_nil, prog_low, acc_low, kd_low, spot_low, ints_low, Bool.true_and, Bool.and_true, Bool.and_eq_true, decide_eq_true_eq, true_and, and_true]
      omega)
    rw [← app3]
    simp only [sSeq, sSet, sRet, sRetN, sIf, sPass, sExpr, sPar2, sAsg, tsB, tNotM, tAndM, tOrM, eAndM, eOrM, eNotM, eIfM, eOp1, eOp2, eOpN, eCall, DS.guard, aCons, aNil, eVar, eC, bind_ok, lft_some, ofR_ok, eIsi, Option.map_some, List.length_cons, List.length_nil, List.getElem?_cons_zero, List.getElem?_cons_succ, List.set_cons_zero, List.set_cons_succ, if_true, if_false, Bool.false_eq_true, Bool.not_true, Bool.not_false, Nat.reduceAdd, Nat.zero_add, reduceIte, vLst_app (show ([] : List D).length ≤ 100000 by decide), List.cons_append, List.nil_append, right_l1 (w := w) (c := c) hc hi hp hst, eMethL, isL_ref g2, youngest_ok (hc4 w (writesOf p i c)) g3, ix_ref g0 (words_at hi), append_ok g2 (show (w.map D.int).length < 100000 by rw [List.length_map]; omega), t2]
theorem right_l3 {p : Pr} (hc : Cl h) (hp : p.length ≤ 12) :
    l3_right_in [some (pD p), some (.ref h.length), some (.ref (h.length + 1)), none, none, none, none, none, none] (h ++ [.lst (wordsD p), .lst []]) =
    .nx [some (pD p), some (.ref h.length), some (.ref (h.length + 1)), none, none, none, none, none, none] (h ++ [.lst (wordsD p), .lst (p.zipIdx.map (rightD p))]) := by
  unfold l3_right_in
  rw [for_enumL (xs := p.map Acc.d) (h1 := h ++ [.lst (wordsD p), .lst []]) rfl, enumD_map]
  have key := forL_foldI (g := gTup 2 (gCons (gName 3) (gCons (gName 4) gNil))) (body := b3_right_in) (fun _ => [some (pD p), some (.ref h.length), some (.ref (h.length + 1)), none, none, none, none, none, none])
    (fun (st : List D) => h ++ [.lst (wordsD p), .lst st]) (fun (q : Acc × Nat) => .tup [.int q.2, q.1.d]) (fun st q => st ++ [rightD p q]) (fun k st => st.length = k ∧ dLows 0 st = true) p.zipIdx [] ⟨rfl, rfl⟩ ?_
  · rw [foldl_snoc] at key
    exact key.1
  · intro k st q hq ⟨hk, hst⟩
    obtain ⟨hz, hz2⟩ := List.getElem?_eq_some_iff.mp hq
    rw [List.length_zipIdx] at hz
    rw [List.getElem_zipIdx] at hz2
    subst hz2
    have hi : p[k]? = some p[k] := List.getElem?_eq_getElem hz
    generalize p[k] = a at hi
    have low2 : dLows 0 (st ++ [rightD p (a, 0 + k)]) = true := by
      rw [dLows_of, List.all_append, ← dLows_of, hst]
      simp only [List.all_cons, List.all_nil, right_low]
      rfl
    refine ⟨⟨by simp [hk], low2⟩, [some (pD p), some (.ref h.length), some (.ref (h.length + 1)), some (.int (0 + k : Nat)), some a.d, none, none, none, none], _, rfl, ?_⟩
    rw [Nat.zero_add] at low2 ⊢
    have hc2 : ∀ st : List D, dLows 0 st = true → Cl (h ++ [.lst (wordsD p), .lst st]) := fun st hst => hc.app0 (by simp only [List.all_cons, List.all_nil, words_low, Bool.and_true, Bool.true_and]; exact hst)
    unfold b3_right_in
    have g2 : (h ++ [O.lst (wordsD p), O.lst st, O.lst ((worth p k a).map D.int)])[h.length + 2]? = some (.lst ((worth p k a).map D.int)) := app_get
    have g1 : (h ++ [O.lst (wordsD p), O.lst st, O.lst ((worth p k a).map D.int)])[h.length + 1]? = some (.lst st) := app_get
    have t1 : ∀ d, (h ++ [O.lst (wordsD p), O.lst st, O.lst ((worth p k a).map D.int)]).set (h.length + 1) (O.lst (st ++ [d])) = h ++ [O.lst (wordsD p), O.lst (st ++ [d]), O.lst ((worth p k a).map D.int)] := fun d => by rw [app_set]; rfl
    refine tidy_nx (r := [O.lst ((worth p k a).map D.int)]) (e1 := [some (pD p), some (.ref h.length), some (.ref (h.length + 1)), some (.int k), some a.d, some (.ref (h.length + 2)), none, none, none]) ?_ (by simp) (hc2 _ low2) (by
      show eLow _ [some (pD p), some (D.ref h.length), some (D.ref (h.length + 1)), none, none, none, none, none, none] = true
      simp only [eLow_some, eLow_none, eLow_nil, dLow, List.length_append, List.length_cons, List.length_nil, prog_low, acc_low, kd_low, spot_low, ints_low, Bool.true_and, Bool.and_true, Bool.and_eq_true, decide_eq_true_eq, true_and, and_true]
      omega)
    rw [← app2]
    have f : (if a.rd = true then (R.ok (D.tup ((worth p k a).map D.int)) (h ++ [O.lst (wordsD p), O.lst st, O.lst ((worth p k a).map D.int)]) : R D) else R.ok .non (h ++ [O.lst (wordsD p), O.lst st, O.lst ((worth p k a).map D.int)])) = .ok (rightD p (a, k)) (h ++ [O.lst (wordsD p), O.lst st, O.lst ((worth p k a).map D.int)]) := by
      unfold rightD
      split <;> rfl
    simp only [sSeq, sSet, sRet, sRetN, sIf, sPass, sExpr, sPar2, sAsg, tsB, tNotM, tAndM, tOrM, eAndM, eOrM, eNotM, eIfM, eOp1, eOp2, eOpN, eCall, DS.guard, aCons, aNil, eVar, eC, bind_ok, lft_some, ofR_ok, eIsi, Option.map_some, List.length_cons, List.length_nil, List.getElem?_cons_zero, List.getElem?_cons_succ, List.set_cons_zero, List.set_cons_succ, if_true, if_false, Bool.false_eq_true, Bool.not_true, Bool.not_false, Nat.reduceAdd, Nat.zero_add, reduceIte, vLst_app (show ([] : List D).length ≤ 100000 by decide), List.cons_append, List.nil_append, right_l2 hc hi hp hst, eMethL, isL_ref g1, ix_acc0, kd_read, tuple_ref g2, f, append_ok g1 (show st.length < 100000 by omega), t1]
theorem right_in_ok {p : Pr} (hc : Cl h) (hp : p.length ≤ 12) : f_right_in [pD p] h = .ok (.ref h.length) (h ++ [.lst (p.zipIdx.map (rightD p))]) := by
  have e : m_right_in [some (pD p), none, none, none, none, none, none, none, none] h = .ret (.ref (h.length + 1)) (h ++ [.lst (wordsD p), .lst (p.zipIdx.map (rightD p))]) := by
    simp only [m_right_in, sSeq, sSet, sRet, sRetN, sIf, sPass, sExpr, sPar2, sAsg, tsB, tNotM, tAndM, tOrM, eAndM, eOrM, eNotM, eIfM, eOp1, eOp2, eOpN, eCall, DS.guard, aCons, aNil, eVar, eC, bind_ok, lft_some, ofR_ok, eIsi, Option.map_some, List.length_cons, List.length_nil, List.getElem?_cons_zero, List.getElem?_cons_succ, List.set_cons_zero, List.set_cons_succ, if_true, if_false, Bool.false_eq_true, Bool.not_true, Bool.not_false, Nat.reduceAdd, Nat.zero_add, reduceIte, true_in_ok hc hp, vLst_app (show ([] : List D).length ≤ 100000 by decide), List.cons_append, List.nil_append, right_l3 hc hp]
  refine mFn_new (h1 := h) (r := [.lst (wordsD p), .lst (p.zipIdx.map (rightD p))]) e rfl hc (Nat.le_succ _) app_get ?_
  show dLows _ _ = true
  rw [dLows_of, List.all_eq_true]
  intro d hd
  obtain ⟨a, _, rfl⟩ := List.mem_map.mp hd
  exact right_low p a
end K01

set_option Elab.async false
set_option linter.all false
set_option maxRecDepth 100000
set_option maxHeartbeats 4000000
namespace DS
open PySem
def hangL (p : Pr) (n k : Nat) : List Int := ((List.range k).filter (hangs p n)).map fun (o : Nat) => (o : Int)
theorem hangL_in {p : Pr} {n k o : Nat} (ho : o < k) : (hangL p n k).contains (o : Int) = hangs p n o := by
  rw [Bool.eq_iff_iff, List.contains_iff_mem]
  unfold hangL
  constructor
  · intro hm
    obtain ⟨x, hx, e⟩ := List.mem_map.mp hm
    have : x = o := by omega
    subst this
    exact (List.mem_filter.mp hx).2
  · intro hm
    exact List.mem_map.mpr ⟨o, List.mem_filter.mpr ⟨List.mem_range.mpr ho, hm⟩, rfl⟩
theorem hangL_nil {p : Pr} {n : Nat} : hangL p n (n + 1) = [] := by
  unfold hangL
  rw [List.map_eq_nil_iff, List.filter_eq_nil_iff]
  intro o ho hh
  have := hangs_lt p n (o + 1) o (by omega) hh
  have := List.mem_range.mp ho
  omega
theorem hangL_succ {p : Pr} {n k : Nat} : hangL p n (k + 1) = hangL p n k ++ (if hangs p n k = true then [(k : Int)] else []) := by
  unfold hangL
  rw [List.range_succ, List.filter_append, List.map_append]
  cases q : hangs p n k with
  | true => rw [List.filter_cons_of_pos q, if_pos rfl]; rfl
  | false => rw [List.filter_cons_of_neg (by rw [q]; decide), if_neg (by decide)]; rfl
theorem hangL_len {p : Pr} {n k : Nat} : (hangL p n k).length ≤ k := by
  unfold hangL
  rw [List.length_map]
  have := List.length_filter_le (hangs p n) (List.range k)
  rw [List.length_range] at this
  exact this
theorem in_intsR {c : Int} {ns : List Int} {n : Nat} {h : Hs} (hn : h[n]? = some (.lst (ns.map .int))) : vIn (.int c) (.ref n) h = some (.bl (ns.contains c), h) := by
  have e := in_ints (c := c) (ns := ns) (h := h)
  unfold vIn inH at e ⊢
  have s1 : seqOf (.ref n) h = some (ns.map .int) := by simp only [seqOf, hn]
  rw [s1]
  exact e
theorem hangs_told {p : Pr} {n o : Nat} {r : Bool} {z : Sz} {w : Int} (ho : p[o]? = some ⟨r, z, .told w⟩) : hangs p n o = false := by
  unfold hangs; rw [ho]
theorem hangs_hung {p : Pr} {n o k : Nat} {r : Bool} {z : Sz} {x y : Int} (ho : p[o]? = some ⟨r, z, .hung k x y⟩) (hk : k < o) : hangs p n o = (k == n || hangs p n k) := by
  conv => lhs; unfold hangs
  rw [ho]
  simp only [hk, if_true]
theorem beq_cast {a b : Nat} : ((a : Int) == (b : Int)) = (a == b) := by
  by_cases q : a = b
  · rw [q, BEq.rfl, BEq.rfl]
  · rw [beq_eq_false_iff_ne.mpr q, beq_eq_false_iff_ne.mpr (by omega)]
end DS
namespace K01
open DS PySem
variable {h : Hs}
theorem e_told_hung : (("told" : Str) == ("hung" : Str)) = false := by decide +kernel
theorem hanging_l1 {p : Pr} {n : Nat} (hc : Cl h) (g : Good p) (hn : n < p.length) :
    l1_hanging_on [some (pD p), some (.int n), some (.ref h.length), none, none] (h ++ [.lst []]) = .nx [some (pD p), some (.int n), some (.ref h.length), none, none] (h ++ [.lst ((hangL p n p.length).map .int)]) := by
  have few := g.few
  have hm : iRange2 (eOp2 vAdd (eVar 1) (eC (.int 1))) (eOpN vLen (aCons (eVar 0) aNil)) [some (pD p), some (.int n), some (.ref h.length), none, none] (h ++ [.lst []]) = .ok (.rng ((n : Int) + 1) (p.length - (n + 1))) (h ++ [.lst []]) := by
    simp only [iRange2, sSeq, sSet, sRet, sRetN, sIf, sPass, sExpr, sPar2, sAsg, tsB, tNotM, tAndM, tOrM, eAndM, eOrM, eNotM, eIfM, eOp1, eOp2, eOpN, eCall, DS.guard, aCons, aNil, eVar, eC, bind_ok, lft_some, ofR_ok, eIsi, Option.map_some, List.length_cons, List.length_nil, List.getElem?_cons_zero, List.getElem?_cons_succ, List.set_cons_zero, List.set_cons_succ, if_true, if_false, Bool.false_eq_true, Bool.not_true, Bool.not_false, Nat.reduceAdd, Nat.zero_add, reduceIte, vAdd_int, len_prog]
    rw [if_pos (by rw [show (n : Int) + 1 = ((n + 1 : Nat) : Int) by omega, rOk_nat (by omega), rOk_nat (by omega)]; rfl)]
    congr 2
    omega
  unfold l1_hanging_on
  have key := for_rng (g := gName 3) (body := b1_hanging_on) (fun _ => [some (pD p), some (.int n), some (.ref h.length), none, none]) (fun k => h ++ [.lst ((hangL p n (n + 1 + k)).map .int)]) hm rfl (by show h ++ [O.lst ((hangL p n (n + 1)).map D.int)] = _; rw [hangL_nil]; rfl) ?_
  · rw [show n + 1 + (p.length - (n + 1)) = p.length by omega] at key
    exact key
  · intro k hk
    refine ⟨[some (pD p), some (.int n), some (.ref h.length), some (.int ((n : Int) + 1 + k)), none], _, rfl, ?_⟩
    rw [show (n : Int) + 1 + (k : Int) = ((n + 1 + k : Nat) : Int) by omega, show n + 1 + (k + 1) = (n + 1 + k) + 1 by omega]
    generalize ho : n + 1 + k = o
    have hlt : o < p.length := by omega
    have hq : p[o]? = some p[o] := List.getElem?_eq_getElem hlt
    generalize p[o] = a at hq
    have hcl : ∀ ws : List Int, Cl (h ++ [.lst (ws.map .int)]) := fun ws => hc.app0 (by simp only [List.all_cons, List.all_nil, oLow_ints, Bool.and_true])
    have g0 : (h ++ [O.lst ((hangL p n o).map D.int)])[h.length]? = some (.lst ((hangL p n o).map D.int)) := app_get0
    have t0 : (h ++ [O.lst ((hangL p n o).map D.int)]).set h.length (O.lst ((hangL p n o).map D.int ++ [D.int o])) = h ++ [O.lst ((hangL p n o ++ [(o : Int)]).map D.int)] := by rw [app_set0, List.map_append]; rfl
    have hE : ∀ ws : List Int, eLow (h ++ [O.lst (ws.map D.int)]).length [some (pD p), some (D.int n), some (D.ref h.length), none, none] = true := fun ws => by
      simp only [eLow_some, eLow_none, eLow_nil, dLow, List.length_append, List.length_cons, List.length_nil, prog_low, acc_low, kd_low, spot_low, ints_low, Bool.true_and, Bool.and_true, Bool.and_eq_true, decide_eq_true_eq, true_and, and_true]
      omega
    have fin : ∀ b : Bool, hangs p n o = b → (sSeq (sSet 4 (eOp2 vIx (eOp2 vIx (eVar 0) (eVar 3)) (eC (.int 2))))
        (sIf (tAndM (tsB (eOp2 vEq (eOp2 vIx (eVar 4) (eC (.int 0))) (eC c_HUNG))) (tOrM (tsB (eOp2 vEq (eOp2 vIx (eVar 4) (eC (.int 1))) (eVar 1))) (tsB (eOp2 vIn (eOp2 vIx (eVar 4) (eC (.int 1))) (eVar 2))))) (sExpr (eMethL vAppend (eVar 2) (aCons (eVar 3) aNil))) sPass)) [some (pD p), some (.int n), some (.ref h.length), some (.int (o : Int)), none] (h ++ [O.lst ((hangL p n o).map D.int)])
        = .nx [some (pD p), some (.int n), some (.ref h.length), some (.int (o : Int)), some a.sp.d] (h ++ [.lst ((hangL p n o ++ (if b = true then [(o : Int)] else [])).map .int)]) → b1_hanging_on [some (pD p), some (.int n), some (.ref h.length), some (.int (o : Int)), none] (h ++ [O.lst ((hangL p n o).map D.int)]) = .nx [some (pD p), some (.int n), some (.ref h.length), none, none] (h ++ [.lst ((hangL p n (o + 1)).map .int)]) := by
      intro b hb e
      rw [hangL_succ, hb]
      exact tidy_nx0 e (by simp) (hcl _) (hE _)
    have lt : ((hangL p n o).map D.int).length < 100000 := by
      rw [List.length_map]
      have := hangL_len (p := p) (n := n) (k := o)
      omega
    obtain ⟨r, z, sp⟩ := a
    cases sp with
    | told w =>
      refine fin false (hangs_told hq) ?_
      simp only [sSeq, sSet, sRet, sRetN, sIf, sPass, sExpr, sPar2, sAsg, tsB, tNotM, tAndM, tOrM, eAndM, eOrM, eNotM, eIfM, eOp1, eOp2, eOpN, eCall, DS.guard, aCons, aNil, eVar, eC, bind_ok, lft_some, ofR_ok, eIsi, Option.map_some, List.length_cons, List.length_nil, List.getElem?_cons_zero, List.getElem?_cons_succ, List.set_cons_zero, List.set_cons_succ, if_true, if_false, Bool.false_eq_true, Bool.not_true, Bool.not_false, Nat.reduceAdd, Nat.zero_add, reduceIte, ix_prog hq, ix_acc2, kd_told, c_HUNG, vEq_str, e_told_hung, List.append_nil]
    | hung k' x y =>
      obtain ⟨hk', -, -, -⟩ := g.ok o _ hq
      have e1 : ∀ h, vIx (Spot.hung k' x y).d (.int 1) h = some (.int k', h) := fun _ => rfl
      have hh := hangs_hung (n := n) hq hk'
      cases q1 : (k' == n) with
      | true =>
        rw [q1, Bool.true_or] at hh
        refine fin true hh ?_
        simp only [sSeq, sSet, sRet, sRetN, sIf, sPass, sExpr, sPar2, sAsg, tsB, tNotM, tAndM, tOrM, eAndM, eOrM, eNotM, eIfM, eOp1, eOp2, eOpN, eCall, DS.guard, aCons, aNil, eVar, eC, bind_ok, lft_some, ofR_ok, eIsi, Option.map_some, List.length_cons, List.length_nil, List.getElem?_cons_zero, List.getElem?_cons_succ, List.set_cons_zero, List.set_cons_succ, if_true, if_false, Bool.false_eq_true, Bool.not_true, Bool.not_false, Nat.reduceAdd, Nat.zero_add, reduceIte, ix_prog hq, ix_acc2, kd_told, c_HUNG, vEq_str, e_hung_hung, e1, vEq_int, beq_cast, q1, eMethL, isL_ref g0, append_ok g0 lt, t0]
      | false =>
        rw [q1, Bool.false_or] at hh
        refine fin _ hh ?_
        cases q2 : hangs p n k' with
        | true => simp only [sSeq, sSet, sRet, sRetN, sIf, sPass, sExpr, sPar2, sAsg, tsB, tNotM, tAndM, tOrM, eAndM, eOrM, eNotM, eIfM, eOp1, eOp2, eOpN, eCall, DS.guard, aCons, aNil, eVar, eC, bind_ok, lft_some, ofR_ok, eIsi, Option.map_some, List.length_cons, List.length_nil, List.getElem?_cons_zero, List.getElem?_cons_succ, List.set_cons_zero, List.set_cons_succ, if_true, if_false, Bool.false_eq_true, Bool.not_true, Bool.not_false, Nat.reduceAdd, Nat.zero_add, reduceIte, ix_prog hq, ix_acc2, kd_told, c_HUNG, vEq_str, e_hung_hung, e1, vEq_int, beq_cast, q1, in_intsR g0, hangL_in hk', q2, eMethL, isL_ref g0, append_ok g0 lt, t0]
        | false => simp only [sSeq, sSet, sRet, sRetN, sIf, sPass, sExpr, sPar2, sAsg, tsB, tNotM, tAndM, tOrM, eAndM, eOrM, eNotM, eIfM, eOp1, eOp2, eOpN, eCall, DS.guard, aCons, aNil, eVar, eC, bind_ok, lft_some, ofR_ok, eIsi, Option.map_some, List.length_cons, List.length_nil, List.getElem?_cons_zero, List.getElem?_cons_succ, List.set_cons_zero, List.set_cons_succ, if_true, if_false, Bool.false_eq_true, Bool.not_true, Bool.not_false, Nat.reduceAdd, Nat.zero_add, reduceIte, ix_prog hq, ix_acc2, kd_told, c_HUNG, vEq_str, e_hung_hung, e1, vEq_int, beq_cast, q1, in_intsR g0, hangL_in hk', q2, List.append_nil]
theorem hanging_on_ok {p : Pr} {n : Nat} (hc : Cl h) (g : Good p) (hn : n < p.length) : f_hanging_on [pD p, .int n] h = .ok (.ref h.length) (h ++ [.lst ((hangL p n p.length).map .int)]) := by
  have e : m_hanging_on [some (pD p), some (.int n), none, none, none] h = .ret (.ref h.length) (h ++ [.lst ((hangL p n p.length).map .int)]) := by
    simp only [m_hanging_on, sSeq, sSet, sRet, sRetN, sIf, sPass, sExpr, sPar2, sAsg, tsB, tNotM, tAndM, tOrM, eAndM, eOrM, eNotM, eIfM, eOp1, eOp2, eOpN, eCall, DS.guard, aCons, aNil, eVar, eC, bind_ok, lft_some, ofR_ok, eIsi, Option.map_some, List.length_cons, List.length_nil, List.getElem?_cons_zero, List.getElem?_cons_succ, List.set_cons_zero, List.set_cons_succ, if_true, if_false, Bool.false_eq_true, Bool.not_true, Bool.not_false, Nat.reduceAdd, Nat.zero_add, reduceIte, vLst_nil, hanging_l1 hc g hn]
  exact mFn_new (h1 := h) (r := [.lst ((hangL p n p.length).map .int)]) e rfl hc (Nat.le_refl _) app_get0 oLow_ints
theorem true_words_ok {p : Pr} (hc : Cl h) (g : Good p) : f_true_words [pD p] h = .ok (.tup (wordsD p)) h := by
  refine mFn_ret (h1 := h) (r := [.lst (wordsD p)]) ?_ rfl hc (words_low p)
  show m_true_words [some (pD p)] h = _
  have g0 : (h ++ [O.lst (wordsD p)])[h.length]? = some (.lst (wordsD p)) := app_get0
  simp only [m_true_words, sSeq, sSet, sRet, sRetN, sIf, sPass, sExpr, sPar2, sAsg, tsB, tNotM, tAndM, tOrM, eAndM, eOrM, eNotM, eIfM, eOp1, eOp2, eOpN, eCall, DS.guard, aCons, aNil, eVar, eC, bind_ok, lft_some, ofR_ok, eIsi, Option.map_some, List.length_cons, List.length_nil, List.getElem?_cons_zero, List.getElem?_cons_succ, List.set_cons_zero, List.set_cons_succ, if_true, if_false, Bool.false_eq_true, Bool.not_true, Bool.not_false, Nat.reduceAdd, Nat.zero_add, reduceIte, need_program_ok hc g, true_in_ok hc g.few, tuple_ref g0]
theorem rights_low {n : Nat} (p : Pr) : dLows n (p.zipIdx.map (rightD p)) = true := by
  rw [dLows_of, List.all_eq_true]
  intro d hd
  obtain ⟨a, _, rfl⟩ := List.mem_map.mp hd
  exact right_low p a
theorem right_worths_ok {p : Pr} (hc : Cl h) (g : Good p) : f_right_worths [pD p] h = .ok (.tup (p.zipIdx.map (rightD p))) h := by
  refine mFn_ret (h1 := h) (r := [.lst (p.zipIdx.map (rightD p))]) ?_ rfl hc (rights_low p)
  show m_right_worths [some (pD p)] h = _
  have g0 : (h ++ [O.lst (p.zipIdx.map (rightD p))])[h.length]? = some (.lst (p.zipIdx.map (rightD p))) := app_get0
  simp only [m_right_worths, sSeq, sSet, sRet, sRetN, sIf, sPass, sExpr, sPar2, sAsg, tsB, tNotM, tAndM, tOrM, eAndM, eOrM, eNotM, eIfM, eOp1, eOp2, eOpN, eCall, DS.guard, aCons, aNil, eVar, eC, bind_ok, lft_some, ofR_ok, eIsi, Option.map_some, List.length_cons, List.length_nil, List.getElem?_cons_zero, List.getElem?_cons_succ, List.set_cons_zero, List.set_cons_succ, if_true, if_false, Bool.false_eq_true, Bool.not_true, Bool.not_false, Nat.reduceAdd, Nat.zero_add, reduceIte, need_program_ok hc g, right_in_ok hc g.few, tuple_ref g0]
theorem need_age_ok {p : Pr} {n : Nat} (hc : Cl h) (hn : n < p.length) : f_need_age [pD p, .int n] h = .ok (.int n) h := by
  refine mFn_ret0 hc ?_ rfl
  show m_need_age [some (pD p), some (.int n)] h = _
  simp only [m_need_age, sSeq, sSet, sRet, sRetN, sIf, sPass, sExpr, sPar2, sAsg, tsB, tNotM, tAndM, tOrM, eAndM, eOrM, eNotM, eIfM, eOp1, eOp2, eOpN, eCall, DS.guard, aCons, aNil, eVar, eC, bind_ok, lft_some, ofR_ok, eIsi, Option.map_some, List.length_cons, List.length_nil, List.getElem?_cons_zero, List.getElem?_cons_succ, List.set_cons_zero, List.set_cons_succ, if_true, if_false, Bool.false_eq_true, Bool.not_true, Bool.not_false, Nat.reduceAdd, Nat.zero_add, reduceIte, len_prog, vSub_int, is_between_ok (i := (n : Int)) (a := 0) (b := (p.length : Int) - 1) hc (by omega) (by omega)]
theorem hangers_of_ok {p : Pr} {n : Nat} (hc : Cl h) (g : Good p) (hn : n < p.length) : f_hangers_of [pD p, .int n] h = .ok (.tup ((hangL p n p.length).map .int)) h := by
  refine mFn_ret (h1 := h) (r := [.lst ((hangL p n p.length).map .int)]) ?_ rfl hc ints_low
  show m_hangers_of [some (pD p), some (.int n)] h = _
  have g0 : (h ++ [O.lst ((hangL p n p.length).map D.int)])[h.length]? = some (.lst ((hangL p n p.length).map D.int)) := app_get0
  simp only [m_hangers_of, sSeq, sSet, sRet, sRetN, sIf, sPass, sExpr, sPar2, sAsg, tsB, tNotM, tAndM, tOrM, eAndM, eOrM, eNotM, eIfM, eOp1, eOp2, eOpN, eCall, DS.guard, aCons, aNil, eVar, eC, bind_ok, lft_some, ofR_ok, eIsi, Option.map_some, List.length_cons, List.length_nil, List.getElem?_cons_zero, List.getElem?_cons_succ, List.set_cons_zero, List.set_cons_succ, if_true, if_false, Bool.false_eq_true, Bool.not_true, Bool.not_false, Nat.reduceAdd, Nat.zero_add, reduceIte, need_program_ok hc g, need_age_ok hc hn, hanging_on_ok hc g hn, tuple_ref g0]
theorem looks_alike_ok {a b : Int} (hc : Cl h) (ha : wOk a) (hb : wOk b) : f_looks_alike [.int a, .int b] h = .ok (.bl (a % 4 == b % 4)) h := by
  have s : f_have_one_sign [.int a, .int b] h = .ok (.bl (a % 4 == b % 4)) h := by
    refine mFn_ret0 hc ?_ rfl
    show m_have_one_sign [some (.int a), some (.int b)] h = _
    simp only [m_have_one_sign, sSeq, sSet, sRet, sRetN, sIf, sPass, sExpr, sPar2, sAsg, tsB, tNotM, tAndM, tOrM, eAndM, eOrM, eNotM, eIfM, eOp1, eOp2, eOpN, eCall, DS.guard, aCons, aNil, eVar, eC, bind_ok, lft_some, ofR_ok, eIsi, Option.map_some, List.length_cons, List.length_nil, List.getElem?_cons_zero, List.getElem?_cons_succ, List.set_cons_zero, List.set_cons_succ, if_true, if_false, Bool.false_eq_true, Bool.not_true, Bool.not_false, Nat.reduceAdd, Nat.zero_add, reduceIte, vInt_int, c_SIGNS, vMod_ok (show (0 : Int) < 4 by decide), vEq_int]
  have l : l1_looks_alike [some (.int a), some (.int b), none] h = .nx [some (.int a), some (.int b), none] h := by
    unfold l1_looks_alike
    rw [for_tupL (xs := [a, b].map .int) (h1 := h) (iter_tup (by simp only [sSeq, sSet, sRet, sRetN, sIf, sPass, sExpr, sPar2, sAsg, tsB, tNotM, tAndM, tOrM, eAndM, eOrM, eNotM, eIfM, eOp1, eOp2, eOpN, eCall, DS.guard, aCons, aNil, eVar, eC, bind_ok, lft_some, ofR_ok, eIsi, Option.map_some, List.length_cons, List.length_nil, List.getElem?_cons_zero, List.getElem?_cons_succ, List.set_cons_zero, List.set_cons_succ, if_true, if_false, Bool.false_eq_true, Bool.not_true, Bool.not_false, Nat.reduceAdd, Nat.zero_add, reduceIte, vTup_ok (show [D.int a, D.int b].length ≤ 100000 by simp), List.map_cons, List.map_nil]))]
    refine forL_same _ fun q hq => ⟨[some (.int a), some (.int b), some (.int q)], h, rfl, ?_⟩
    unfold b1_looks_alike
    refine tidy_nx0 (e1 := [some (.int a), some (.int b), some (.int q)]) ?_ rfl hc rfl
    have w : wOk q := by
      rcases List.mem_cons.mp hq with rfl | hq
      · exact ha
      · rcases List.mem_cons.mp hq with rfl | hq
        · exact hb
        · cases hq
    simp only [sSeq, sSet, sRet, sRetN, sIf, sPass, sExpr, sPar2, sAsg, tsB, tNotM, tAndM, tOrM, eAndM, eOrM, eNotM, eIfM, eOp1, eOp2, eOpN, eCall, DS.guard, aCons, aNil, eVar, eC, bind_ok, lft_some, ofR_ok, eIsi, Option.map_some, List.length_cons, List.length_nil, List.getElem?_cons_zero, List.getElem?_cons_succ, List.set_cons_zero, List.set_cons_succ, if_true, if_false, Bool.false_eq_true, Bool.not_true, Bool.not_false, Nat.reduceAdd, Nat.zero_add, reduceIte, is_word_ok hc w]
  refine mFn_ret0 hc ?_ rfl
  show m_looks_alike [some (.int a), some (.int b), none] h = _
  simp only [m_looks_alike, sSeq, sSet, sRet, sRetN, sIf, sPass, sExpr, sPar2, sAsg, tsB, tNotM, tAndM, tOrM, eAndM, eOrM, eNotM, eIfM, eOp1, eOp2, eOpN, eCall, DS.guard, aCons, aNil, eVar, eC, bind_ok, lft_some, ofR_ok, eIsi, Option.map_some, List.length_cons, List.length_nil, List.getElem?_cons_zero, List.getElem?_cons_succ, List.set_cons_zero, List.set_cons_succ, if_true, if_false, Bool.false_eq_true, Bool.not_true, Bool.not_false, Nat.reduceAdd, Nat.zero_add, reduceIte, l, s]
end K01

set_option Elab.async false
set_option linter.all false
set_option maxRecDepth 100000
set_option maxHeartbeats 4000000
namespace K01
open DS PySem
variable {h : Hs}
theorem draw_def : f__law_draw = dDraw := rfl
theorem of_def : f__law_of = dOf := rfl
theorem begin_def : f__law_begin = dBegin := rfl
def cellsT : List (L2.Key × D) := [(.inr "low", .tup [.int 0]), (.inr "high", .tup [.int 1]), (.inr "both", .tup [.int 0, .int 1])]
theorem law_cells_ok (hc : Cl h) (z : Sz) : f__law_cells [.str z.s] h = .ok (.tup (z.cells.map .int)) h := by
  refine mFn_ret (h1 := h) (r := [.dct cellsT]) ?_ rfl hc ints_low
  show m__law_cells [some (.str z.s)] h = _
  have e1 : eDict [((eC (.str "low")), (eOpN vTup (aCons (eC (.int 0)) aNil))), ((eC (.str "high")), (eOpN vTup (aCons (eC (.int 1)) aNil))), ((eC (.str "both")), (eOpN vTup (aCons (eC (.int 0)) (aCons (eC (.int 1)) aNil))))] [some (.str z.s)] h = .ok (.ref h.length) (h ++ [.dct cellsT]) := by kernel_rfl
  have e2 : vDGet (.ref h.length) (.str z.s) (h ++ [.dct cellsT]) = some (.tup (z.cells.map .int), h ++ [.dct cellsT]) := by
    simp only [vDGet, app_get0, List.getElem?_cons_zero]
    cases z <;> kernel_rfl
  simp only [m__law_cells, sRet, eOp2, e1, bind_ok, eVar, List.getElem?_cons_zero, e2, lft_some, ofR_ok]
theorem law_true_ok (hc : Cl h) (a : Acc) : f__law_true [a.d] h = .ok (.int a.word) h := by
  refine mFn_ret0 hc ?_ rfl
  show m__law_true [some a.d] h = _
  obtain ⟨r, z, sp⟩ := a
  cases sp with
  | told w =>
    have e1 : vIx (Spot.told w).d (.int 1) h = some (.int w, h) := rfl
    simp only [m__law_true, sSeq, sSet, sRet, sRetN, sIf, sPass, sExpr, sPar2, sAsg, tsB, tNotM, tAndM, tOrM, eAndM, eOrM, eNotM, eIfM, eOp1, eOp2, eOpN, eCall, DS.guard, aCons, aNil, eVar, eC, bind_ok, lft_some, ofR_ok, eIsi, Option.map_some, List.length_cons, List.length_nil, List.getElem?_cons_zero, List.getElem?_cons_succ, List.set_cons_zero, List.set_cons_succ, if_true, if_false, Bool.false_eq_true, Bool.not_true, Bool.not_false, Nat.reduceAdd, Nat.zero_add, reduceIte, ix_acc2, kd_told, vEq_str, e_told_told, e1, Acc.word, Spot.word]
  | hung k x y =>
    have e1 : vIx (Spot.hung k x y).d (.int 2) h = some (.int x, h) := rfl
    simp only [m__law_true, sSeq, sSet, sRet, sRetN, sIf, sPass, sExpr, sPar2, sAsg, tsB, tNotM, tAndM, tOrM, eAndM, eOrM, eNotM, eIfM, eOp1, eOp2, eOpN, eCall, DS.guard, aCons, aNil, eVar, eC, bind_ok, lft_some, ofR_ok, eIsi, Option.map_some, List.length_cons, List.length_nil, List.getElem?_cons_zero, List.getElem?_cons_succ, List.set_cons_zero, List.set_cons_succ, if_true, if_false, Bool.false_eq_true, Bool.not_true, Bool.not_false, Nat.reduceAdd, Nat.zero_add, reduceIte, ix_acc2, kd_told, vEq_str, e_hung_told, e1, Acc.word, Spot.word]
theorem kd_write' {h : Hs} (b : Bool) : vEq (kdD b) (.str "write") h = some (.bl (!b), h) := by cases b <;> kernel_rfl
theorem kd_read' {h : Hs} (b : Bool) : vEq (kdD b) (.str "read") h = some (.bl b, h) := by cases b <;> kernel_rfl
theorem lright_l1 {p : Pr} {i : Nat} {a : Acc} {c m0 : Int} {w : List Int} (hc : Cl h) (hi : p[i]? = some a) (hp : p.length ≤ 12) :
    l1__law_right [some (pD p), some (.int i), some (.int a.word), some (.ref h.length), some (.int c), some (.int m0), none, none, none, none] (h ++ [.lst (w.map .int)]) =
    .nx [some (pD p), some (.int i), some (.int a.word), some (.ref h.length), some (.int c), some (.int ((List.range i).foldl (fun m o => if mk p i c o = true then (o : Int) else m) m0)), none, none, none, none] (h ++ [.lst (w.map .int)]) := by
  have hlt : i < p.length := (List.getElem?_eq_some_iff.mp hi).1
  unfold l1__law_right
  rw [for_rngL (iter_rng (i := i) rfl (by omega)), ints0]
  refine (forL_foldI (g := gName 6) (body := b1__law_right) (fun (m : Int) => [some (pD p), some (.int i), some (.int a.word), some (.ref h.length), some (.int c), some (.int m), none, none, none, none])
    (fun _ => h ++ [.lst (w.map .int)]) (fun (o : Nat) => D.int (o : Int)) (fun m o => if mk p i c o = true then (o : Int) else m) (fun _ _ => True) (List.range i) m0 trivial ?_).1
  intro k m o ho _
  obtain ⟨hk2, ho3⟩ := List.getElem?_eq_some_iff.mp ho
  rw [List.getElem_range] at ho3
  subst ho3
  rw [List.length_range] at hk2
  refine ⟨trivial, [some (pD p), some (.int i), some (.int a.word), some (.ref h.length), some (.int c), some (.int m), some (.int k), none, none, none], _, rfl, ?_⟩
  have hc1 : Cl (h ++ [.lst (w.map .int)]) := hc.app0 (by simp only [List.all_cons, List.all_nil, oLow_ints, Bool.and_true])
  have hq : p[k]? = some p[k] := List.getElem?_eq_getElem (by omega)
  generalize p[k] = q at hq
  have e : mk p i c k = (!q.rd && (q.word == a.word && q.sz.cells.contains c)) := by unfold mk; rw [hq, hi]
  have hE : ∀ m : Int, eLow (h ++ [O.lst (w.map D.int)]).length [some (pD p), some (.int i), some (.int a.word), some (.ref h.length), some (.int c), some (.int m), none, none, none, none] = true := fun m => by
    simp only [eLow_some, eLow_none, eLow_nil, dLow, List.length_append, List.length_cons, List.length_nil, prog_low, acc_low, kd_low, spot_low, ints_low, Bool.true_and, Bool.and_true, Bool.and_eq_true, decide_eq_true_eq, true_and, and_true]
    omega
  have gt : ∀ env : En, env.length = 10 → ∀ h, gTup 3 (gCons (gName 7) (gCons (gName 8) (gCons (gName 9) gNil))) q.d env h = .ok (((env.set 7 (some (kdD q.rd))).set 8 (some (.str q.sz.s))).set 9 (some q.sp.d)) h := fun _ _ _ => rfl
  unfold b1__law_right
  refine tidy_nx0 (e1 := [some (pD p), some (.int i), some (.int a.word), some (.ref h.length), some (.int c), some (.int (if mk p i c k = true then (k : Int) else m)), some (.int k), some (kdD q.rd), some (.str q.sz.s), some q.sp.d]) ?_ rfl hc1 (hE _)
  rw [e]
  simp only [sSeq, sSet, sRet, sRetN, sIf, sPass, sExpr, sPar2, sAsg, tsB, tNotM, tAndM, tOrM, eAndM, eOrM, eNotM, eIfM, eOp1, eOp2, eOpN, eCall, DS.guard, aCons, aNil, eVar, eC, bind_ok, lft_some, ofR_ok, eIsi, Option.map_some, List.length_cons, List.length_nil, List.getElem?_cons_zero, List.getElem?_cons_succ, List.set_cons_zero, List.set_cons_succ, if_true, if_false, Bool.false_eq_true, Bool.not_true, Bool.not_false, Nat.reduceAdd, Nat.zero_add, reduceIte, ix_prog hq, gt, kd_write', law_true_ok hc1, vEq_int, law_cells_ok hc1, in_ints]
  cases e1 : !q.rd with
  | false => simp only [sSeq, sSet, sRet, sRetN, sIf, sPass, sExpr, sPar2, sAsg, tsB, tNotM, tAndM, tOrM, eAndM, eOrM, eNotM, eIfM, eOp1, eOp2, eOpN, eCall, DS.guard, aCons, aNil, eVar, eC, bind_ok, lft_some, ofR_ok, eIsi, Option.map_some, List.length_cons, List.length_nil, List.getElem?_cons_zero, List.getElem?_cons_succ, List.set_cons_zero, List.set_cons_succ, if_true, if_false, Bool.false_eq_true, Bool.not_true, Bool.not_false, Nat.reduceAdd, Nat.zero_add, reduceIte, Bool.false_and]
  | true =>
    cases e2 : q.word == a.word with
    | false => simp only [sSeq, sSet, sRet, sRetN, sIf, sPass, sExpr, sPar2, sAsg, tsB, tNotM, tAndM, tOrM, eAndM, eOrM, eNotM, eIfM, eOp1, eOp2, eOpN, eCall, DS.guard, aCons, aNil, eVar, eC, bind_ok, lft_some, ofR_ok, eIsi, Option.map_some, List.length_cons, List.length_nil, List.getElem?_cons_zero, List.getElem?_cons_succ, List.set_cons_zero, List.set_cons_succ, if_true, if_false, Bool.false_eq_true, Bool.not_true, Bool.not_false, Nat.reduceAdd, Nat.zero_add, reduceIte, Bool.false_and, Bool.true_and]
    | true =>
      cases e3 : q.sz.cells.contains c with
      | false => simp only [sSeq, sSet, sRet, sRetN, sIf, sPass, sExpr, sPar2, sAsg, tsB, tNotM, tAndM, tOrM, eAndM, eOrM, eNotM, eIfM, eOp1, eOp2, eOpN, eCall, DS.guard, aCons, aNil, eVar, eC, bind_ok, lft_some, ofR_ok, eIsi, Option.map_some, List.length_cons, List.length_nil, List.getElem?_cons_zero, List.getElem?_cons_succ, List.set_cons_zero, List.set_cons_succ, if_true, if_false, Bool.false_eq_true, Bool.not_true, Bool.not_false, Nat.reduceAdd, Nat.zero_add, reduceIte, Bool.false_and, Bool.true_and]
      | true => simp only [sSeq, sSet, sRet, sRetN, sIf, sPass, sExpr, sPar2, sAsg, tsB, tNotM, tAndM, tOrM, eAndM, eOrM, eNotM, eIfM, eOp1, eOp2, eOpN, eCall, DS.guard, aCons, aNil, eVar, eC, bind_ok, lft_some, ofR_ok, eIsi, Option.map_some, List.length_cons, List.length_nil, List.getElem?_cons_zero, List.getElem?_cons_succ, List.set_cons_zero, List.set_cons_succ, if_true, if_false, Bool.false_eq_true, Bool.not_true, Bool.not_false, Nat.reduceAdd, Nat.zero_add, reduceIte, Bool.true_and]
theorem law_right_ok {p : Pr} {i : Nat} {a : Acc} (hc : Cl h) (hi : p[i]? = some a) (hp : p.length ≤ 12) : f__law_right [pD p, .int i] h = .ok (.tup ((worth p i a).map .int)) h := by
  have hc1 : ∀ w : List Int, Cl (h ++ [.lst (w.map .int)]) := fun w => hc.app0 (by simp only [List.all_cons, List.all_nil, oLow_ints, Bool.and_true])
  have l2 : l2__law_right [some (pD p), some (.int i), some (.int a.word), some (.ref h.length), none, none, none, none, none, none] (h ++ [.lst []]) =
      .nx [some (pD p), some (.int i), some (.int a.word), some (.ref h.length), none, none, none, none, none, none] (h ++ [.lst ((worth p i a).map .int)]) := by
    unfold l2__law_right
    rw [for_tupL (iter_tup (h1 := h ++ [.lst []]) (xs := a.sz.cells.map .int) (by simp only [sSeq, sSet, sRet, sRetN, sIf, sPass, sExpr, sPar2, sAsg, tsB, tNotM, tAndM, tOrM, eAndM, eOrM, eNotM, eIfM, eOp1, eOp2, eOpN, eCall, DS.guard, aCons, aNil, eVar, eC, bind_ok, lft_some, ofR_ok, eIsi, Option.map_some, List.length_cons, List.length_nil, List.getElem?_cons_zero, List.getElem?_cons_succ, List.set_cons_zero, List.set_cons_succ, if_true, if_false, Bool.false_eq_true, Bool.not_true, Bool.not_false, Nat.reduceAdd, Nat.zero_add, reduceIte, ix_prog hi, ix_acc1]; exact law_cells_ok (hc1 []) a.sz))]
    have key := forL_foldI (g := gName 4) (body := b2__law_right) (fun _ => [some (pD p), some (.int i), some (.int a.word), some (.ref h.length), none, none, none, none, none, none])
      (fun (w : List Int) => h ++ [.lst (w.map .int)]) D.int (fun w c => w ++ [young (writesOf p i c) a.word]) (fun k w => w.length = k) a.sz.cells [] rfl ?_
    · rw [foldl_snoc] at key
      simp only [List.map_nil, List.nil_append] at key
      exact key.1
    · intro k w c hcc hk
      have hk2 : k < 2 := by
        have := (List.getElem?_eq_some_iff.mp hcc).1
        have h2 : a.sz.cells.length ≤ 2 := by cases a.sz <;> decide
        omega
      refine ⟨by simp [hk], [some (pD p), some (.int i), some (.int a.word), some (.ref h.length), some (.int c), none, none, none, none, none], _, rfl, ?_⟩
      unfold b2__law_right
      have g0 : (h ++ [O.lst (w.map D.int)])[h.length]? = some (.lst (w.map D.int)) := app_get0
      have t0 : (h ++ [O.lst (w.map D.int)]).set h.length (O.lst (w.map D.int ++ [D.int (young (writesOf p i c) a.word)])) = h ++ [O.lst ((w ++ [young (writesOf p i c) a.word]).map D.int)] := by rw [app_set0, List.map_append]; rfl
      refine tidy_nx0 (e1 := [some (pD p), some (.int i), some (.int a.word), some (.ref h.length), some (.int c), some (.int (young (writesOf p i c) a.word)), none, none, none, none]) ?_ (by simp) (hc1 _) (by
        show eLow _ [some (pD p), some (D.int i), some (D.int a.word), some (D.ref h.length), none, none, none, none, none, none] = true
        simp only [eLow_some, eLow_none, eLow_nil, dLow, List.length_append, List.length_cons, List.length_nil, prog_low, acc_low, kd_low, spot_low, ints_low, Bool.true_and, Bool.and_true, Bool.and_eq_true, decide_eq_true_eq, true_and, and_true]
        omega)
      have n1 : vNeg (.int 1) (h ++ [.lst (w.map .int)]) = some (.int (-1), h ++ [.lst (w.map .int)]) := rfl
      simp only [sSeq, sSet, sRet, sRetN, sIf, sPass, sExpr, sPar2, sAsg, tsB, tNotM, tAndM, tOrM, eAndM, eOrM, eNotM, eIfM, eOp1, eOp2, eOpN, eCall, DS.guard, aCons, aNil, eVar, eC, bind_ok, lft_some, ofR_ok, eIsi, Option.map_some, List.length_cons, List.length_nil, List.getElem?_cons_zero, List.getElem?_cons_succ, List.set_cons_zero, List.set_cons_succ, if_true, if_false, Bool.false_eq_true, Bool.not_true, Bool.not_false, Nat.reduceAdd, Nat.zero_add, reduceIte, n1, vSub_int, lright_l1 (w := w) (c := c) hc hi hp, ← young_fold, eMethL, isL_ref g0, append_ok g0 (show (w.map D.int).length < 100000 by rw [List.length_map]; omega), t0]
  refine mFn_ret (h1 := h) (r := [.lst ((worth p i a).map .int)]) ?_ rfl hc ints_low
  show m__law_right [some (pD p), some (.int i), none, none, none, none, none, none, none, none] h = _
  have g0 : (h ++ [O.lst ((worth p i a).map D.int)])[h.length]? = some (.lst ((worth p i a).map D.int)) := app_get0
  simp only [m__law_right, sSeq, sSet, sRet, sRetN, sIf, sPass, sExpr, sPar2, sAsg, tsB, tNotM, tAndM, tOrM, eAndM, eOrM, eNotM, eIfM, eOp1, eOp2, eOpN, eCall, DS.guard, aCons, aNil, eVar, eC, bind_ok, lft_some, ofR_ok, eIsi, Option.map_some, List.length_cons, List.length_nil, List.getElem?_cons_zero, List.getElem?_cons_succ, List.set_cons_zero, List.set_cons_succ, if_true, if_false, Bool.false_eq_true, Bool.not_true, Bool.not_false, Nat.reduceAdd, Nat.zero_add, reduceIte, ix_prog hi, law_true_ok hc, vLst_nil, l2, tuple_ref g0]
theorem hangs_w {p : Pr} {el : Nat} (hc : Cl h) (g : Good p) : ∀ (fuel age : Nat), age < fuel → age < p.length →
    (hangs p el age = true ∧ whGo (tsB (eOp2 vEq (eOp2 vIx (eOp2 vIx (eOp2 vIx (eVar 0) (eVar 1)) (eC (.int 2))) (eC (.int 0))) (eC (.str "hung")))) b1__law_hangs fuel [some (pD p), some (.int age), some (.int el)] h = .ret (.bl true) h)
    ∨ (hangs p el age = false ∧ ∃ e, whGo (tsB (eOp2 vEq (eOp2 vIx (eOp2 vIx (eOp2 vIx (eVar 0) (eVar 1)) (eC (.int 2))) (eC (.int 0))) (eC (.str "hung")))) b1__law_hangs fuel [some (pD p), some (.int age), some (.int el)] h = .nx e h)
  | 0, _, hl, _ => by omega
  | fuel + 1, age, hl, hlt => by
    have hq : p[age]? = some p[age] := List.getElem?_eq_getElem hlt
    generalize p[age] = a at hq
    obtain ⟨r, z, sp⟩ := a
    unfold whGo
    cases sp with
    | told w =>
      refine .inr ⟨hangs_told hq, [some (pD p), some (.int age), some (.int el)], ?_⟩
      simp only [sSeq, sSet, sRet, sRetN, sIf, sPass, sExpr, sPar2, sAsg, tsB, tNotM, tAndM, tOrM, eAndM, eOrM, eNotM, eIfM, eOp1, eOp2, eOpN, eCall, DS.guard, aCons, aNil, eVar, eC, bind_ok, lft_some, ofR_ok, eIsi, Option.map_some, List.length_cons, List.length_nil, List.getElem?_cons_zero, List.getElem?_cons_succ, List.set_cons_zero, List.set_cons_succ, if_true, if_false, Bool.false_eq_true, Bool.not_true, Bool.not_false, Nat.reduceAdd, Nat.zero_add, reduceIte, ix_prog hq, ix_acc2, kd_told, vEq_str, e_told_hung]
    | hung k x y =>
      obtain ⟨hk, -, -, -⟩ := g.ok age _ hq
      have e1 : ∀ h, vIx (Spot.hung k x y).d (.int 1) h = some (.int k, h) := fun _ => rfl
      have hh := hangs_hung (n := el) hq hk
      cases q1 : (k == el) with
      | true =>
        rw [q1, Bool.true_or] at hh
        refine .inl ⟨hh, ?_⟩
        have b : b1__law_hangs [some (pD p), some (.int age), some (.int el)] h = .ret (.bl true) h := by
          unfold b1__law_hangs
          refine tidy_ret ?_
          simp only [sSeq, sSet, sRet, sRetN, sIf, sPass, sExpr, sPar2, sAsg, tsB, tNotM, tAndM, tOrM, eAndM, eOrM, eNotM, eIfM, eOp1, eOp2, eOpN, eCall, DS.guard, aCons, aNil, eVar, eC, bind_ok, lft_some, ofR_ok, eIsi, Option.map_some, List.length_cons, List.length_nil, List.getElem?_cons_zero, List.getElem?_cons_succ, List.set_cons_zero, List.set_cons_succ, if_true, if_false, Bool.false_eq_true, Bool.not_true, Bool.not_false, Nat.reduceAdd, Nat.zero_add, reduceIte, ix_prog hq, ix_acc2, e1, vEq_int, beq_cast, q1]
        simp only [sSeq, sSet, sRet, sRetN, sIf, sPass, sExpr, sPar2, sAsg, tsB, tNotM, tAndM, tOrM, eAndM, eOrM, eNotM, eIfM, eOp1, eOp2, eOpN, eCall, DS.guard, aCons, aNil, eVar, eC, bind_ok, lft_some, ofR_ok, eIsi, Option.map_some, List.length_cons, List.length_nil, List.getElem?_cons_zero, List.getElem?_cons_succ, List.set_cons_zero, List.set_cons_succ, if_true, if_false, Bool.false_eq_true, Bool.not_true, Bool.not_false, Nat.reduceAdd, Nat.zero_add, reduceIte, ix_prog hq, ix_acc2, kd_told, vEq_str, e_hung_hung, b]
      | false =>
        rw [q1, Bool.false_or] at hh
        have b : b1__law_hangs [some (pD p), some (.int age), some (.int el)] h = .nx [some (pD p), some (.int k), some (.int el)] h := by
          unfold b1__law_hangs
          refine tidy_nx0 (e1 := [some (pD p), some (.int k), some (.int el)]) ?_ rfl hc (by show eLow _ [some (pD p), some (D.int k), some (D.int el)] = true; simp only [eLow_some, eLow_none, eLow_nil, dLow, List.length_append, List.length_cons, List.length_nil, prog_low, acc_low, kd_low, spot_low, ints_low, Bool.true_and, Bool.and_true, Bool.and_eq_true, decide_eq_true_eq, true_and, and_true])
          simp only [sSeq, sSet, sRet, sRetN, sIf, sPass, sExpr, sPar2, sAsg, tsB, tNotM, tAndM, tOrM, eAndM, eOrM, eNotM, eIfM, eOp1, eOp2, eOpN, eCall, DS.guard, aCons, aNil, eVar, eC, bind_ok, lft_some, ofR_ok, eIsi, Option.map_some, List.length_cons, List.length_nil, List.getElem?_cons_zero, List.getElem?_cons_succ, List.set_cons_zero, List.set_cons_succ, if_true, if_false, Bool.false_eq_true, Bool.not_true, Bool.not_false, Nat.reduceAdd, Nat.zero_add, reduceIte, ix_prog hq, ix_acc2, e1, vEq_int, beq_cast, q1]
        have ih := hangs_w (el := el) hc g fuel k (by omega) (by omega)
        rw [hh]
        rcases ih with ⟨i1, i2⟩ | ⟨i1, e, i2⟩
        · refine .inl ⟨i1, ?_⟩
          simp only [sSeq, sSet, sRet, sRetN, sIf, sPass, sExpr, sPar2, sAsg, tsB, tNotM, tAndM, tOrM, eAndM, eOrM, eNotM, eIfM, eOp1, eOp2, eOpN, eCall, DS.guard, aCons, aNil, eVar, eC, bind_ok, lft_some, ofR_ok, eIsi, Option.map_some, List.length_cons, List.length_nil, List.getElem?_cons_zero, List.getElem?_cons_succ, List.set_cons_zero, List.set_cons_succ, if_true, if_false, Bool.false_eq_true, Bool.not_true, Bool.not_false, Nat.reduceAdd, Nat.zero_add, reduceIte, ix_prog hq, ix_acc2, kd_told, vEq_str, e_hung_hung, b, i2]
        · refine .inr ⟨i1, e, ?_⟩
          simp only [sSeq, sSet, sRet, sRetN, sIf, sPass, sExpr, sPar2, sAsg, tsB, tNotM, tAndM, tOrM, eAndM, eOrM, eNotM, eIfM, eOp1, eOp2, eOpN, eCall, DS.guard, aCons, aNil, eVar, eC, bind_ok, lft_some, ofR_ok, eIsi, Option.map_some, List.length_cons, List.length_nil, List.getElem?_cons_zero, List.getElem?_cons_succ, List.set_cons_zero, List.set_cons_succ, if_true, if_false, Bool.false_eq_true, Bool.not_true, Bool.not_false, Nat.reduceAdd, Nat.zero_add, reduceIte, ix_prog hq, ix_acc2, kd_told, vEq_str, e_hung_hung, b, i2]
theorem law_hangs_ok {p : Pr} {el age : Nat} (hc : Cl h) (g : Good p) (hlt : age < p.length) : f__law_hangs [pD p, .int age, .int el] h = .ok (.bl (hangs p el age)) h := by
  refine mFn_ret0 hc ?_ rfl
  show m__law_hangs [some (pD p), some (.int age), some (.int el)] h = _
  have few := g.few
  unfold m__law_hangs w1__law_hangs sWhile
  rcases hangs_w (el := el) hc g 14 age (by omega) hlt with ⟨i1, i2⟩ | ⟨i1, e, i2⟩
  · simp only [sSeq, sSet, sRet, sRetN, sIf, sPass, sExpr, sPar2, sAsg, tsB, tNotM, tAndM, tOrM, eAndM, eOrM, eNotM, eIfM, eOp1, eOp2, eOpN, eCall, DS.guard, aCons, aNil, eVar, eC, bind_ok, lft_some, ofR_ok, eIsi, Option.map_some, List.length_cons, List.length_nil, List.getElem?_cons_zero, List.getElem?_cons_succ, List.set_cons_zero, List.set_cons_succ, if_true, if_false, Bool.false_eq_true, Bool.not_true, Bool.not_false, Nat.reduceAdd, Nat.zero_add, reduceIte, fuel__law_hangs, i1, i2]
  · simp only [sSeq, sSet, sRet, sRetN, sIf, sPass, sExpr, sPar2, sAsg, tsB, tNotM, tAndM, tOrM, eAndM, eOrM, eNotM, eIfM, eOp1, eOp2, eOpN, eCall, DS.guard, aCons, aNil, eVar, eC, bind_ok, lft_some, ofR_ok, eIsi, Option.map_some, List.length_cons, List.length_nil, List.getElem?_cons_zero, List.getElem?_cons_succ, List.set_cons_zero, List.set_cons_succ, if_true, if_false, Bool.false_eq_true, Bool.not_true, Bool.not_false, Nat.reduceAdd, Nat.zero_add, reduceIte, fuel__law_hangs, i1, i2]
theorem prog_ok30 (p : Pr) : okN 30 (pD p) = true := by
  show (p.map Acc.d).all (okN 29) = true
  rw [List.all_eq_true]
  intro d hd
  obtain ⟨⟨r, z, sp⟩, _, rfl⟩ := List.mem_map.mp hd
  cases r <;> cases z <;> cases sp <;> kernel_rfl
theorem words_ok30 (p : Pr) : okN 30 (.tup (wordsD p)) = true := by
  show (wordsD p).all (okN 29) = true
  rw [List.all_eq_true]
  intro d hd
  obtain ⟨a, _, rfl⟩ := List.mem_map.mp hd
  rfl
theorem rights_ok30 (p : Pr) : okN 30 (.tup (p.zipIdx.map (rightD p))) = true := by
  show (p.zipIdx.map (rightD p)).all (okN 29) = true
  rw [List.all_eq_true]
  intro d hd
  obtain ⟨a, _, rfl⟩ := List.mem_map.mp hd
  unfold rightD
  split
  · exact okN_ints
  · rfl
theorem q_true {p : Pr} {e1 e2 e3 e4 : Option D} (hc : Cl h) (hp : p.length ≤ 12) : q1__law_program_right [some (pD p), e1, e2, e3, e4, none] h = .ok (.ref h.length) (h ++ [.lst (wordsD p)]) ∧ q3__law_program_right [some (pD p), e1, e2, e3, e4, none] h = .ok (.ref h.length) (h ++ [.lst (wordsD p)]) := by
  have e : eComp [5] (iSeq (eVar 0)) (.nm 5) tTrue (eCall 1 f__law_true (aCons (eVar 5) aNil)) [some (pD p), e1, e2, e3, e4, none] h = .ok (.ref h.length) (h ++ [.lst (wordsD p)]) := by
    rw [comp_tup p Acc.d (fun _ => true) (fun a => .int a.word) rfl (by omega) fun a _ => ⟨[some (pD p), e1, e2, e3, e4, some a.d], rfl, rfl, fun _ => gc_pure ?_ hc rfl⟩, filter_all]
    · rfl
    · simp only [sSeq, sSet, sRet, sRetN, sIf, sPass, sExpr, sPar2, sAsg, tsB, tNotM, tAndM, tOrM, eAndM, eOrM, eNotM, eIfM, eOp1, eOp2, eOpN, eCall, DS.guard, aCons, aNil, eVar, eC, bind_ok, lft_some, ofR_ok, eIsi, Option.map_some, List.length_cons, List.length_nil, List.getElem?_cons_zero, List.getElem?_cons_succ, List.set_cons_zero, List.set_cons_succ, if_true, if_false, Bool.false_eq_true, Bool.not_true, Bool.not_false, Nat.reduceAdd, Nat.zero_add, reduceIte, law_true_ok hc]
  exact ⟨e, e⟩
end K01

set_option Elab.async false
set_option linter.all false
set_option maxRecDepth 100000
set_option maxHeartbeats 4000000
namespace DS
open PySem
theorem pick2 {v : Int} (h0 : 0 ≤ v) (h1 : v < 2) : ∃ b, [D.str "write", D.str "read"][v.toNat]? = some (kdD b) := by
  have : v = 0 ∨ v = 1 := by omega
  rcases this with rfl | rfl
  · exact ⟨false, rfl⟩
  · exact ⟨true, rfl⟩
theorem pick3 {v : Int} (h0 : 0 ≤ v) (h1 : v < 3) : ∃ z : Sz, [D.str "low", D.str "high", D.str "both"][v.toNat]? = some (.str z.s) := by
  have : v = 0 ∨ v = 1 ∨ v = 2 := by omega
  rcases this with rfl | rfl | rfl
  · exact ⟨.low, rfl⟩
  · exact ⟨.high, rfl⟩
  · exact ⟨.both, rfl⟩
theorem pick6 {v : Int} (h0 : 0 ≤ v) (h1 : v < 6) : ∃ j : Int, [D.int 0, D.int 0, D.int 0, D.int 1, D.int 2, D.int 3][v.toNat]? = some (.int j) ∧ 0 ≤ j ∧ j < 4 := by
  have : v = 0 ∨ v = 1 ∨ v = 2 ∨ v = 3 ∨ v = 4 ∨ v = 5 := by omega
  rcases this with rfl | rfl | rfl | rfl | rfl | rfl
  · exact ⟨0, rfl, by decide, by decide⟩
  · exact ⟨0, rfl, by decide, by decide⟩
  · exact ⟨0, rfl, by decide, by decide⟩
  · exact ⟨1, rfl, by decide, by decide⟩
  · exact ⟨2, rfl, by decide, by decide⟩
  · exact ⟨3, rfl, by decide, by decide⟩
theorem pickw {v : Int} (h0 : 0 ≤ v) (h1 : v < 4) : ∃ w : Int, [D.int 0, D.int 1, D.int 4, D.int 2][v.toNat]? = some (.int w) ∧ wOk w := by
  have : v = 0 ∨ v = 1 ∨ v = 2 ∨ v = 3 := by omega
  rcases this with rfl | rfl | rfl | rfl
  · exact ⟨0, rfl, by decide, by decide⟩
  · exact ⟨1, rfl, by decide, by decide⟩
  · exact ⟨4, rfl, by decide, by decide⟩
  · exact ⟨2, rfl, by decide, by decide⟩
def readsOf (p : Pr) : List Nat := (List.range p.length).filter fun k => match p[k]? with | some a => a.rd | none => false
theorem reads_mem {p : Pr} {k : Nat} (h : k ∈ readsOf p) : k < p.length ∧ ∃ q, p[k]? = some q ∧ q.rd = true := by
  obtain ⟨h1, h2⟩ := List.mem_filter.mp h
  have hk := List.mem_range.mp h1
  refine ⟨hk, p[k], List.getElem?_eq_getElem hk, ?_⟩
  rw [List.getElem?_eq_getElem hk] at h2
  exact h2
/-- programs on the way -/
def GoodP (p : Pr) : Prop := ∀ (i : Nat) (a : Acc), p[i]? = some a → a.sp.ok p i
theorem Spot.ok_app {p : Pr} {i : Nat} {s : Spot} {q : Pr} (h : s.ok p i) : s.ok (p ++ q) i := by
  cases s with
  | told w => exact h
  | hung k a b =>
    obtain ⟨h1, ⟨x, h2, h3⟩, h4⟩ := h
    exact ⟨h1, ⟨x, by rw [List.getElem?_append_left (List.getElem?_eq_some_iff.mp h2).1]; exact h2, h3⟩, h4⟩
theorem GoodP.snoc {p : Pr} {a : Acc} (g : GoodP p) (ha : a.sp.ok p p.length) : GoodP (p ++ [a]) := by
  intro i b hb
  by_cases hi : i < p.length
  · rw [List.getElem?_append_left hi] at hb
    exact Spot.ok_app (g i b hb)
  · rw [List.getElem?_append_right (by omega)] at hb
    have : i - p.length = 0 := by
      have := (List.getElem?_eq_some_iff.mp hb).1
      simp at this; omega
    rw [this] at hb
    have e : a = b := by simpa using hb
    have e2 : i = p.length := by omega
    subst e e2
    exact Spot.ok_app ha
theorem hp_cl {s : S} {r : Hs} (hr : r.all (oLow 0) = true) : Cl (s.hp ++ r) := s.cl0.app0 hr
theorem progL_low {p : Pr} {n : Nat} : oLow n (.lst (p.map Acc.d)) = true := prog_low p
end DS
namespace K01
open DS PySem
theorem prog_q {s : S} {p : Pr} {e4 e5 e6 e7 e8 : Option D} {r : Hs} (hr : r.all (oLow 0) = true) (hp : p.length ≤ 12) :
    q1__law_program [some (.ref 3), some (.int 12), some (.ref 4), some (.int p.length), e4, e5, e6, e7, e8, none] (s.hp ++ (.lst (p.map Acc.d) :: r)) = .ok (.ref (5 + r.length)) (s.hp ++ (.lst (p.map Acc.d) :: r) ++ [.lst ((readsOf p).map fun (k : Nat) => .int (k : Int))]) := by
  have hc : Cl (s.hp ++ (.lst (p.map Acc.d) :: r)) := hp_cl (by rw [List.all_cons, progL_low, hr]; rfl)
  have e := comp_rng0 (vs := [9]) (mi := iRange1 (eVar 3)) (g := .nm 9) (t := tsB (eOp2 vEq (eOp2 vIx (eOp2 vIx (eVar 2) (eVar 9)) (eC (.int 0))) (eC (.str "read")))) (e := eVar 9) (env := [some (.ref 3), some (.int 12), some (.ref 4), some (.int p.length), e4, e5, e6, e7, e8, none])
    (h := s.hp ++ (.lst (p.map Acc.d) :: r)) (n := p.length) (fun k => match p[k]? with | some a => a.rd | none => false) (fun k => .int (k : Int)) (iter_rng rfl (by omega)) (by omega) fun k hk => ⟨[some (.ref 3), some (.int 12), some (.ref 4), some (.int p.length), e4, e5, e6, e7, e8, some (.int k)], rfl, ?_, fun _ => gc_pure rfl hc rfl⟩
  · unfold q1__law_program
    rw [e]
    congr 2
    rw [List.length_append, List.length_cons]
    show 4 + (r.length + 1) = 5 + r.length
    omega
  · have hq : p[k]? = some p[k] := List.getElem?_eq_getElem hk
    generalize p[k] = a at hq
    have g0 : (s.hp ++ (O.lst (p.map Acc.d) :: r))[4]? = some (.lst (p.map Acc.d)) := rfl
    simp only [sSeq, sSet, sRet, sRetN, sIf, sPass, sExpr, sPar2, sAsg, tsB, tNotM, tAndM, tOrM, eAndM, eOrM, eNotM, eIfM, eOp1, eOp2, eOpN, eCall, DS.guard, aCons, aNil, eVar, eC, bind_ok, lft_some, ofR_ok, eIsi, Option.map_some, List.length_cons, List.length_nil, List.getElem?_cons_zero, List.getElem?_cons_succ, List.set_cons_zero, List.set_cons_succ, if_true, if_false, Bool.false_eq_true, Bool.not_true, Bool.not_false, Nat.reduceAdd, Nat.zero_add, reduceIte, ix_ref g0 (show (p.map Acc.d)[k]? = some a.d by rw [List.getElem?_map, hq]; rfl), ix_acc0, kd_read', hq]
theorem prog_body {s : S} {N : Nat} {p : Pr} (hs : s.ok (N + 7)) (hp : p.length < 12) (gp : GoodP p) :
    ∃ (s' : S) (a : Acc), s'.ok N ∧ a.sp.ok p p.length ∧ b1__law_program [some (.ref 3), some (.int 12), some (.ref 4), some (.int p.length), none, none, none, none, none, none] (s.hp ++ [.lst (p.map Acc.d)]) = .nx [some (.ref 3), some (.int 12), some (.ref 4), none, none, none, none, none, none, none] (s'.hp ++ [.lst ((p ++ [a]).map Acc.d)]) := by
  have few : (p.map Acc.d).length < 100000 := by rw [List.length_map]; omega
  have o1 : (s.next 2).ok (N + 6) := S.next_ok hs 2
  have o2 : ((s.next 2).next 3).ok (N + 5) := S.next_ok o1 3
  have o3 : (((s.next 2).next 3).next 6).ok (N + 4) := S.next_ok o2 6
  have o4 : ((((s.next 2).next 3).next 6).next 3).ok (N + 3) := S.next_ok o3 3
  obtain ⟨b, hb⟩ := pick2 (s.val_lo (m := 2) (by decide)) (s.val_hi (by decide))
  obtain ⟨z, hz⟩ := pick3 ((s.next 2).val_lo (m := 3) (by decide)) ((s.next 2).val_hi (by decide))
  obtain ⟨j, hj, j0, j1⟩ := pick6 (((s.next 2).next 3).val_lo (m := 6) (by decide)) (((s.next 2).next 3).val_hi (by decide))
  obtain ⟨w, hw, hwo⟩ := pickw j0 j1
  generalize hs1 : s.next 2 = s1 at *
  generalize hs2 : s1.next 3 = s2 at *
  generalize hs3 : s2.next 6 = s3 at *
  have P0 : oLow 0 (.lst (p.map Acc.d)) = true := progL_low
  generalize hRR : O.lst (p.map Acc.d) = RR at *
  have d1 := draw_eq (r := [RR, .lst [.str "write", .str "read"]]) (m := 2) (hs.mono (by omega)) (hp_cl (by rw [List.all_cons, P0]; rfl)) (by decide) (by decide)
  have d2 := draw_eq (r := [RR, .lst [.str "write", .str "read"], .lst [.str "low", .str "high", .str "both"]]) (m := 3) (o1.mono (by omega)) (hp_cl (by rw [List.all_cons, P0]; rfl)) (by decide) (by decide)
  have d3 := draw_eq (r := [RR, .lst [.str "write", .str "read"], .lst [.str "low", .str "high", .str "both"], .lst [.int 0, .int 1, .int 4, .int 2], .lst [.int 0, .int 0, .int 0, .int 1, .int 2, .int 3]]) (m := 6) (o2.mono (by omega)) (hp_cl (by rw [List.all_cons, P0]; rfl)) (by decide) (by decide)
  have d4 := draw_eq (r := [RR, .lst [.str "write", .str "read"], .lst [.str "low", .str "high", .str "both"], .lst [.int 0, .int 1, .int 4, .int 2], .lst [.int 0, .int 0, .int 0, .int 1, .int 2, .int 3], .lst ((readsOf p).map fun (k : Nat) => .int (k : Int)), .lst []]) (m := 3) (o3.mono (by omega))
    (hp_cl (by rw [List.all_cons, P0]; simp only [List.all_cons, Bool.true_and, Bool.and_eq_true]; refine ⟨rfl, rfl, rfl, rfl, ?_, rfl, rfl⟩; show dLows 0 _ = true; rw [dLows_of, List.all_map]; exact List.all_eq_true.mpr fun _ _ => rfl)) (by decide) (by decide)
  rw [hs1] at d1
  rw [hs2] at d2
  rw [hs3] at d3
  have g1 : (s1.hp ++ [RR, .lst [.str "write", .str "read"]])[5]? = some (.lst [.str "write", .str "read"]) := rfl
  have g2 : (s2.hp ++ [RR, .lst [.str "write", .str "read"], .lst [.str "low", .str "high", .str "both"]])[6]? = some (.lst [.str "low", .str "high", .str "both"]) := rfl
  have g3 : (s3.hp ++ [RR, .lst [.str "write", .str "read"], .lst [.str "low", .str "high", .str "both"], .lst [.int 0, .int 1, .int 4, .int 2], .lst [.int 0, .int 0, .int 0, .int 1, .int 2, .int 3]])[8]? = some (.lst [.int 0, .int 0, .int 0, .int 1, .int 2, .int 3]) := rfl
  have g3' : (s3.hp ++ [RR, .lst [.str "write", .str "read"], .lst [.str "low", .str "high", .str "both"], .lst [.int 0, .int 1, .int 4, .int 2], .lst [.int 0, .int 0, .int 0, .int 1, .int 2, .int 3]])[7]? = some (.lst [.int 0, .int 1, .int 4, .int 2]) := rfl
  have q := prog_q (s := s3) (p := p) (e4 := some (kdD b)) (e5 := some (.str z.s)) (e6 := some (.ref 7)) (e7 := some (.tup [.str "told", .int w])) (e8 := none) (r := [.lst [.str "write", .str "read"], .lst [.str "low", .str "high", .str "both"], .lst [.int 0, .int 1, .int 4, .int 2], .lst [.int 0, .int 0, .int 0, .int 1, .int 2, .int 3]]) rfl (by omega)
  rw [hRR] at q
  have ks0 : (((readsOf p).map fun (k : Nat) => D.int (k : Int))).all (okN 29) = true := by rw [List.all_map]; exact List.all_eq_true.mpr fun _ _ => rfl
  generalize hKS : ((readsOf p).map fun (k : Nat) => D.int (k : Int)) = KS at *
  have ne := ne_nil (n := 9) (xs := KS) (h := s3.hp ++ [RR, .lst [.str "write", .str "read"], .lst [.str "low", .str "high", .str "both"], .lst [.int 0, .int 1, .int 4, .int 2], .lst [.int 0, .int 0, .int 0, .int 1, .int 2, .int 3], .lst KS]) rfl ks0
  have ne2 : vNe (.ref 9) (.ref 10) (s3.hp ++ [RR, .lst [.str "write", .str "read"], .lst [.str "low", .str "high", .str "both"], .lst [.int 0, .int 1, .int 4, .int 2], .lst [.int 0, .int 0, .int 0, .int 1, .int 2, .int 3], .lst KS, .lst []]) = some (.bl (!KS.isEmpty), s3.hp ++ [RR, .lst [.str "write", .str "read"], .lst [.str "low", .str "high", .str "both"], .lst [.int 0, .int 1, .int 4, .int 2], .lst [.int 0, .int 0, .int 0, .int 1, .int 2, .int 3], .lst KS, .lst []]) := ne
  have fin : ∀ (s' : S) (sp : Spot) (r : Hs), (∀ e : En, e = [some (.ref 3), some (.int 12), some (.ref 4), some (.int p.length), some (kdD b), some (.str z.s), some (.ref 7), some sp.d, some (.ref 9), none] → (sExpr (eMethL vAppend (eVar 2) (aCons (eOpN vTup (aCons (eVar 4) (aCons (eVar 5) (aCons (eVar 7) aNil)))) aNil))) e (s'.hp ++ RR :: r) = .nx e (s'.hp ++ .lst ((p ++ [Acc.mk b z sp]).map Acc.d) :: r)) := by
    intro s' sp r e he
    subst he hRR
    have gg : (s'.hp ++ O.lst (p.map Acc.d) :: r)[4]? = some (.lst (p.map Acc.d)) := rfl
    have tt : (s'.hp ++ O.lst (p.map Acc.d) :: r).set 4 (O.lst (p.map Acc.d ++ [D.tup [kdD b, .str z.s, sp.d]])) = s'.hp ++ .lst ((p ++ [Acc.mk b z sp]).map Acc.d) :: r := by rw [List.map_append]; rfl
    simp only [sSeq, sSet, sRet, sRetN, sIf, sPass, sExpr, sPar2, sAsg, tsB, tNotM, tAndM, tOrM, eAndM, eOrM, eNotM, eIfM, eOp1, eOp2, eOpN, eCall, DS.guard, aCons, aNil, eVar, eC, bind_ok, lft_some, ofR_ok, eIsi, Option.map_some, List.length_cons, List.length_nil, List.getElem?_cons_zero, List.getElem?_cons_succ, List.set_cons_zero, List.set_cons_succ, if_true, if_false, Bool.false_eq_true, Bool.not_true, Bool.not_false, Nat.reduceAdd, Nat.zero_add, reduceIte, eMethL, isL_ref gg, vTup_ok (show [kdD b, D.str z.s, sp.d].length ≤ 100000 by simp), append_ok gg few, tt]
  unfold b1__law_program
  by_cases hk : KS = []
  · subst hk
    refine ⟨s3, ⟨b, z, .told w⟩, o3.mono (by omega), hwo, ?_⟩
    refine tidy_nx (clr := [3, 4, 5, 6, 7, 8]) (h := s.hp ++ [RR]) (h1 := s3.hp ++ [.lst ((p ++ [Acc.mk b z (.told w)]).map Acc.d)]) (r := [.lst [.str "write", .str "read"], .lst [.str "low", .str "high", .str "both"], .lst [.int 0, .int 1, .int 4, .int 2], .lst [.int 0, .int 0, .int 0, .int 1, .int 2, .int 3], .lst [], .lst []]) (e1 := [some (.ref 3), some (.int 12), some (.ref 4), some (.int p.length), some (kdD b), some (.str z.s), some (.ref 7), some (Spot.told w).d, some (.ref 9), none]) ?_ rfl (hp_cl (by rw [List.all_cons, progL_low]; rfl)) rfl
    have f := fin s3 (.told w) [.lst [.str "write", .str "read"], .lst [.str "low", .str "high", .str "both"], .lst [.int 0, .int 1, .int 4, .int 2], .lst [.int 0, .int 0, .int 0, .int 1, .int 2, .int 3], .lst [], .lst []] _ rfl
    rw [List.append_assoc]
    refine Eq.trans ?_ f
    simp only [sSeq, sSet, sIf, sPass, tsB, tAndM, eOp2, eOpN, eCall, DS.guard, aCons, aNil, eVar, eC, bind_ok, lft_some, ofR_ok, List.length_cons, List.length_nil, List.getElem?_cons_zero, List.getElem?_cons_succ, List.set_cons_zero, List.set_cons_succ, if_true, if_false, Bool.false_eq_true, Bool.not_true, Bool.not_false, Nat.reduceAdd, Nat.zero_add, reduceIte, vLst_hp (show [D.str "write", D.str "read"].length ≤ 100000 by decide), vLst_hp (show [D.str "low", D.str "high", D.str "both"].length ≤ 100000 by decide), vLst_hp (show [D.int 0, D.int 1, D.int 4, D.int 2].length ≤ 100000 by decide), vLst_hp (show [D.int 0, D.int 0, D.int 0, D.int 1, D.int 2, D.int 3].length ≤ 100000 by decide), vLst_hp (show ([] : List D).length ≤ 100000 by decide), List.cons_append, List.nil_append, List.append_assoc, draw_def, d1, d2, d3, ix_refI g1 (s.val_lo (by decide)) hb, ix_refI g2 (s1.val_lo (by decide)) hz, ix_refI g3 (s2.val_lo (by decide)) hj, ix_refI g3' j0 hw, vTup_ok (show [D.str "told", D.int w].length ≤ 100000 by simp), q, ne2, List.isEmpty_nil]
    rfl
  · have hke : KS.isEmpty = false := by cases KS with | nil => exact absurd rfl hk | cons _ _ => rfl
    have kl : KS.length = (readsOf p).length := by rw [← hKS, List.length_map]
    have kpos : 0 < KS.length := List.length_pos_iff.mpr hk
    have kle : KS.length ≤ 12 := by
      rw [kl]
      have := List.length_filter_le (fun k => match p[k]? with | some a => a.rd | none => false) (List.range p.length)
      rw [List.length_range] at this
      unfold readsOf
      omega
    generalize hs4 : s3.next 3 = s4 at *
    have cl7 : ∀ s : S, Cl (s.hp ++ [RR, .lst [.str "write", .str "read"], .lst [.str "low", .str "high", .str "both"], .lst [.int 0, .int 1, .int 4, .int 2], .lst [.int 0, .int 0, .int 0, .int 1, .int 2, .int 3], .lst KS, .lst []]) := fun s => hp_cl (by
      rw [List.all_cons, P0]; simp only [List.all_cons, Bool.true_and, Bool.and_eq_true]; refine ⟨rfl, rfl, rfl, rfl, ?_, rfl, rfl⟩; show dLows 0 _ = true; rw [← hKS, dLows_of, List.all_map]; exact List.all_eq_true.mpr fun _ _ => rfl)
    by_cases hv : s3.val 3 = 0
    · have o5 : (s4.next KS.length).ok (N + 2) := S.next_ok o4 _
      have o6 : ((s4.next KS.length).next 4).ok (N + 1) := S.next_ok o5 _
      have o7 : (((s4.next KS.length).next 4).next 4).ok N := S.next_ok o6 _
      obtain ⟨x5, hx5, e5⟩ := of_eq (s := s4) (k := 9) (xs := KS) (o4.mono (by omega)) (cl7 s4) (by decide) rfl kpos (by omega) (by
        intro d hd
        rw [← hKS] at hd
        obtain ⟨k, _, rfl⟩ := List.mem_map.mp hd
        rfl)
      obtain ⟨k5, hk5, rfl⟩ : ∃ k : Nat, k ∈ readsOf p ∧ D.int (k : Int) = x5 := by
        have := List.mem_of_getElem? hx5
        rw [← hKS] at this
        obtain ⟨k, h1, h2⟩ := List.mem_map.mp this
        exact ⟨k, h1, h2⟩
      generalize hs5 : s4.next KS.length = s5 at *
      have wl : ∀ d ∈ [D.int 0, D.int 1, D.int 4, D.int 2], ∀ n, dLow n d = true := by
        intro d hd n
        simp only [List.mem_cons, List.not_mem_nil, or_false] at hd
        rcases hd with rfl | rfl | rfl | rfl <;> rfl
      obtain ⟨x6, hx6, e6⟩ := of_eq (s := s5) (k := 7) (xs := [.int 0, .int 1, .int 4, .int 2]) (o5.mono (by omega)) (cl7 s5) (by decide) rfl (by decide) (by decide) (fun d hd => wl d hd _)
      obtain ⟨w6, hw6, ok6⟩ := pickw (s5.val_lo (m := 4) (by decide)) (s5.val_hi (by decide))
      have e66 : x6 = .int w6 := Option.some.inj (hx6.symm.trans hw6)
      subst e66
      have e6 : dOf [.ref 3, .ref 7] (s5.hp ++ [RR, .lst [.str "write", .str "read"], .lst [.str "low", .str "high", .str "both"], .lst [.int 0, .int 1, .int 4, .int 2], .lst [.int 0, .int 0, .int 0, .int 1, .int 2, .int 3], .lst KS, .lst []]) = .ok (.int w6) ((s5.next 4).hp ++ [RR, .lst [.str "write", .str "read"], .lst [.str "low", .str "high", .str "both"], .lst [.int 0, .int 1, .int 4, .int 2], .lst [.int 0, .int 0, .int 0, .int 1, .int 2, .int 3], .lst KS, .lst []]) := e6
      generalize hs6 : s5.next 4 = s6 at *
      obtain ⟨x7, hx7, e7⟩ := of_eq (s := s6) (k := 7) (xs := [.int 0, .int 1, .int 4, .int 2]) (o6.mono (by omega)) (cl7 s6) (by decide) rfl (by decide) (by decide) (fun d hd => wl d hd _)
      obtain ⟨w7, hw7, ok7⟩ := pickw (s6.val_lo (m := 4) (by decide)) (s6.val_hi (by decide))
      have e77 : x7 = .int w7 := Option.some.inj (hx7.symm.trans hw7)
      subst e77
      have e7 : dOf [.ref 3, .ref 7] (s6.hp ++ [RR, .lst [.str "write", .str "read"], .lst [.str "low", .str "high", .str "both"], .lst [.int 0, .int 1, .int 4, .int 2], .lst [.int 0, .int 0, .int 0, .int 1, .int 2, .int 3], .lst KS, .lst []]) = .ok (.int w7) ((s6.next 4).hp ++ [RR, .lst [.str "write", .str "read"], .lst [.str "low", .str "high", .str "both"], .lst [.int 0, .int 1, .int 4, .int 2], .lst [.int 0, .int 0, .int 0, .int 1, .int 2, .int 3], .lst KS, .lst []]) := e7
      generalize hs7 : s6.next 4 = s7 at *
      obtain ⟨kl5, q5⟩ := reads_mem hk5
      refine ⟨s7, ⟨b, z, .hung k5 w6 w7⟩, o7, ⟨kl5, q5, ok6, ok7⟩, ?_⟩
      refine tidy_nx (clr := [3, 4, 5, 6, 7, 8]) (h := s.hp ++ [RR]) (h1 := s7.hp ++ [.lst ((p ++ [Acc.mk b z (.hung k5 w6 w7)]).map Acc.d)]) (r := [.lst [.str "write", .str "read"], .lst [.str "low", .str "high", .str "both"], .lst [.int 0, .int 1, .int 4, .int 2], .lst [.int 0, .int 0, .int 0, .int 1, .int 2, .int 3], .lst KS, .lst []]) (e1 := [some (.ref 3), some (.int 12), some (.ref 4), some (.int p.length), some (kdD b), some (.str z.s), some (.ref 7), some (Spot.hung k5 w6 w7).d, some (.ref 9), none]) ?_ rfl (hp_cl (by rw [List.all_cons, progL_low]; rfl)) rfl
      have f := fin s7 (.hung k5 w6 w7) [.lst [.str "write", .str "read"], .lst [.str "low", .str "high", .str "both"], .lst [.int 0, .int 1, .int 4, .int 2], .lst [.int 0, .int 0, .int 0, .int 1, .int 2, .int 3], .lst KS, .lst []] _ rfl
      rw [List.append_assoc]
      refine Eq.trans ?_ f
      simp only [sSeq, sSet, sIf, sPass, tsB, tAndM, eOp2, eOpN, eCall, DS.guard, aCons, aNil, eVar, eC, bind_ok, lft_some, ofR_ok, List.length_cons, List.length_nil, List.getElem?_cons_zero, List.getElem?_cons_succ, List.set_cons_zero, List.set_cons_succ, if_true, if_false, Bool.false_eq_true, Bool.not_true, Bool.not_false, Nat.reduceAdd, Nat.zero_add, reduceIte, vLst_hp (show [D.str "write", D.str "read"].length ≤ 100000 by decide), vLst_hp (show [D.str "low", D.str "high", D.str "both"].length ≤ 100000 by decide), vLst_hp (show [D.int 0, D.int 1, D.int 4, D.int 2].length ≤ 100000 by decide), vLst_hp (show [D.int 0, D.int 0, D.int 0, D.int 1, D.int 2, D.int 3].length ≤ 100000 by decide), vLst_hp (show ([] : List D).length ≤ 100000 by decide), List.cons_append, List.nil_append, List.append_assoc, draw_def, d1, d2, d3, ix_refI g1 (s.val_lo (by decide)) hb, ix_refI g2 (s1.val_lo (by decide)) hz, ix_refI g3 (s2.val_lo (by decide)) hj, ix_refI g3' j0 hw, vTup_ok (show [D.str "told", D.int w].length ≤ 100000 by simp), q, ne2, hke, d4, hv, vEq_int, BEq.rfl, of_def, e5, e6, e7, vTup_ok (show [D.str "hung", D.int (k5 : Int), D.int w6, D.int w7].length ≤ 100000 by simp)]
      rfl
    · refine ⟨s4, ⟨b, z, .told w⟩, o4.mono (by omega), hwo, ?_⟩
      refine tidy_nx (clr := [3, 4, 5, 6, 7, 8]) (h := s.hp ++ [RR]) (h1 := s4.hp ++ [.lst ((p ++ [Acc.mk b z (.told w)]).map Acc.d)]) (r := [.lst [.str "write", .str "read"], .lst [.str "low", .str "high", .str "both"], .lst [.int 0, .int 1, .int 4, .int 2], .lst [.int 0, .int 0, .int 0, .int 1, .int 2, .int 3], .lst KS, .lst []]) (e1 := [some (.ref 3), some (.int 12), some (.ref 4), some (.int p.length), some (kdD b), some (.str z.s), some (.ref 7), some (Spot.told w).d, some (.ref 9), none]) ?_ rfl (hp_cl (by rw [List.all_cons, progL_low]; rfl)) rfl
      have f := fin s4 (.told w) [.lst [.str "write", .str "read"], .lst [.str "low", .str "high", .str "both"], .lst [.int 0, .int 1, .int 4, .int 2], .lst [.int 0, .int 0, .int 0, .int 1, .int 2, .int 3], .lst KS, .lst []] _ rfl
      rw [List.append_assoc]
      refine Eq.trans ?_ f
      simp only [sSeq, sSet, sIf, sPass, tsB, tAndM, eOp2, eOpN, eCall, DS.guard, aCons, aNil, eVar, eC, bind_ok, lft_some, ofR_ok, List.length_cons, List.length_nil, List.getElem?_cons_zero, List.getElem?_cons_succ, List.set_cons_zero, List.set_cons_succ, if_true, if_false, Bool.false_eq_true, Bool.not_true, Bool.not_false, Nat.reduceAdd, Nat.zero_add, reduceIte, vLst_hp (show [D.str "write", D.str "read"].length ≤ 100000 by decide), vLst_hp (show [D.str "low", D.str "high", D.str "both"].length ≤ 100000 by decide), vLst_hp (show [D.int 0, D.int 1, D.int 4, D.int 2].length ≤ 100000 by decide), vLst_hp (show [D.int 0, D.int 0, D.int 0, D.int 1, D.int 2, D.int 3].length ≤ 100000 by decide), vLst_hp (show ([] : List D).length ≤ 100000 by decide), List.cons_append, List.nil_append, List.append_assoc, draw_def, d1, d2, d3, ix_refI g1 (s.val_lo (by decide)) hb, ix_refI g2 (s1.val_lo (by decide)) hz, ix_refI g3 (s2.val_lo (by decide)) hj, ix_refI g3' j0 hw, vTup_ok (show [D.str "told", D.int w].length ≤ 100000 by simp), q, ne2, hke, d4, vEq_int, beq_eq_false_iff_ne.mpr hv]
      rfl
end K01

set_option Elab.async false
set_option linter.all false
set_option maxRecDepth 100000
set_option maxHeartbeats 4000000
namespace K01
open DS PySem
variable {h : Hs}
theorem prog_iter {s : S} {n : Nat} (hs : s.ok 1) (hn : s.val 12 = (n : Int)) : iRange1 (eOp2 vAdd (eC (.int 1)) (eCall 2 f__law_draw (aCons (eVar 0) (aCons (eVar 1) aNil)))) [some (.ref 3), some (.int 12), some (.ref 4), none, none, none, none, none, none, none] (s.hp ++ [.lst []]) = .ok (.rng 0 (n + 1)) ((s.next 12).hp ++ [.lst []]) := by
  have v1 := s.val_hi (m := 12) (by decide)
  have dr := draw_eq (s := s) (r := [.lst []]) (m := 12) hs (hp_cl rfl) (by decide) (by decide)
  rw [hn] at dr
  refine iter_rng ?_ (by omega)
  simp only [sSeq, sSet, sRet, sRetN, sIf, sPass, sExpr, sPar2, sAsg, tsB, tNotM, tAndM, tOrM, eAndM, eOrM, eNotM, eIfM, eOp1, eOp2, eOpN, eCall, DS.guard, aCons, aNil, eVar, eC, bind_ok, lft_some, ofR_ok, eIsi, Option.map_some, List.length_cons, List.length_nil, List.getElem?_cons_zero, List.getElem?_cons_succ, List.set_cons_zero, List.set_cons_succ, if_true, if_false, Bool.false_eq_true, Bool.not_true, Bool.not_false, Nat.reduceAdd, Nat.zero_add, reduceIte, draw_def, dr, vAdd_int]
  rw [show (1 : Int) + (n : Int) = ((n + 1 : Nat) : Int) by omega]
theorem prog_loop {s : S} {N n : Nat} (hs : s.ok (N + 100)) (hn : s.val 12 = (n : Int)) : ∃ (p : Pr) (s' : S), Good p ∧ s'.ok N ∧ l1__law_program [some (.ref 3), some (.int 12), some (.ref 4), none, none, none, none, none, none, none] (s.hp ++ [.lst []]) = .nx [some (.ref 3), some (.int 12), some (.ref 4), none, none, none, none, none, none, none] (s'.hp ++ [.lst (p.map Acc.d)]) := by
  have v1 := s.val_hi (m := 12) (by decide)
  have hm := prog_iter (hs.mono (by omega)) hn
  have o12 : (s.next 12).ok (N + 99) := S.next_ok hs 12
  unfold l1__law_program
  obtain ⟨e', h', hl, s', p, he, hh, ho, hp, hg⟩ := for_rng_inv (g := gName 3) (body := b1__law_program) (fun i e h => ∃ (s' : S) (p : Pr), e = [some (.ref 3), some (.int 12), some (.ref 4), none, none, none, none, none, none, none] ∧ h = s'.hp ++ [.lst (p.map Acc.d)] ∧ s'.ok (N + 7 * (12 - i)) ∧ p.length = i ∧ GoodP p) hm
    ⟨s.next 12, [], rfl, rfl, o12.mono (by omega), rfl, fun i a ha => by cases ha⟩ (by
      intro i e h hi hI
      obtain ⟨s', p, he, hh, ho, hp, hg⟩ := hI
      subst he hh hp
      obtain ⟨s2, a, o2, ha, hb⟩ := prog_body (s := s') (N := N + 7 * (12 - (p.length + 1))) (p := p) (ho.mono (by clear hm hg ho; omega)) (by clear hm hg ho; omega) hg
      have gg : gName 3 (.int (0 + (p.length : Int))) [some (.ref 3), some (.int 12), some (.ref 4), none, none, none, none, none, none, none] (s'.hp ++ [.lst (p.map Acc.d)]) = .ok [some (.ref 3), some (.int 12), some (.ref 4), some (.int p.length), none, none, none, none, none, none] (s'.hp ++ [.lst (p.map Acc.d)]) := by rw [Int.zero_add]; rfl
      exact ⟨_, _, _, _, gg, hb, s2, p ++ [a], rfl, rfl, o2, by rw [List.length_append]; rfl, hg.snoc ha⟩)
  rw [he, hh] at hl
  exact ⟨p, s', ⟨by omega, by omega, hg⟩, ho.mono (by omega), hl⟩
theorem law_program_ok {s : S} {N : Nat} (hs : s.ok (N + 100)) : ∃ (p : Pr) (s' : S), Good p ∧ s'.ok N ∧ f__law_program [.ref 3, .int 12] s.hp = .ok (pD p) s'.hp := by
  have v0 := s.val_lo (m := 12) (by decide)
  obtain ⟨n, hn⟩ : ∃ n : Nat, s.val 12 = (n : Int) := ⟨(s.val 12).toNat, by omega⟩
  obtain ⟨p, s', gp, o', hl⟩ := prog_loop hs hn
  refine ⟨p, s', gp, o', ?_⟩
  refine mFn_ret (h1 := s'.hp) (r := [.lst (p.map Acc.d)]) ?_ rfl s'.cl0 (prog_low p)
  show m__law_program [some (.ref 3), some (.int 12), none, none, none, none, none, none, none, none] s.hp = _
  have g0 : (s'.hp ++ [.lst (p.map Acc.d)])[4]? = some (.lst (p.map Acc.d)) := rfl
  have vl : vLst [] s.hp = some (.ref 4, s.hp ++ [.lst []]) := rfl
  simp only [m__law_program, sSeq, sSet, sRet, sRetN, sIf, sPass, sExpr, sPar2, sAsg, tsB, tNotM, tAndM, tOrM, eAndM, eOrM, eNotM, eIfM, eOp1, eOp2, eOpN, eCall, DS.guard, aCons, aNil, eVar, eC, bind_ok, lft_some, ofR_ok, eIsi, Option.map_some, List.length_cons, List.length_nil, List.getElem?_cons_zero, List.getElem?_cons_succ, List.set_cons_zero, List.set_cons_succ, if_true, if_false, Bool.false_eq_true, Bool.not_true, Bool.not_false, Nat.reduceAdd, Nat.zero_add, reduceIte, vl, hl, tuple_ref g0, pD]
theorem lr_l1 {p : Pr} (hc : Cl h) (hp : p.length ≤ 12) :
    l1__law_program_right [some (pD p), some (.ref (h.length + 1)), none, none, none, none] (h ++ [.lst (wordsD p), .lst []]) = .nx [some (pD p), some (.ref (h.length + 1)), none, none, none, none] (h ++ [.lst (wordsD p), .lst (p.zipIdx.map (rightD p))]) := by
  have hm : iRange1 (eOpN vLen (aCons (eVar 0) aNil)) [some (pD p), some (.ref (h.length + 1)), none, none, none, none] (h ++ [.lst (wordsD p), .lst []]) = .ok (.rng 0 p.length) (h ++ [.lst (wordsD p), .lst []]) := iter_rng (by simp only [sSeq, sSet, sRet, sRetN, sIf, sPass, sExpr, sPar2, sAsg, tsB, tNotM, tAndM, tOrM, eAndM, eOrM, eNotM, eIfM, eOp1, eOp2, eOpN, eCall, DS.guard, aCons, aNil, eVar, eC, bind_ok, lft_some, ofR_ok, eIsi, Option.map_some, List.length_cons, List.length_nil, List.getElem?_cons_zero, List.getElem?_cons_succ, List.set_cons_zero, List.set_cons_succ, if_true, if_false, Bool.false_eq_true, Bool.not_true, Bool.not_false, Nat.reduceAdd, Nat.zero_add, reduceIte, len_prog]) (by omega)
  unfold l1__law_program_right
  have key := for_rng (g := gName 2) (body := b1__law_program_right) (fun _ => [some (pD p), some (.ref (h.length + 1)), none, none, none, none]) (fun k => h ++ [.lst (wordsD p), .lst ((p.zipIdx.map (rightD p)).take k)]) hm rfl rfl ?_
  · rw [List.take_of_length_le (by simp)] at key
    exact key
  · intro k hk
    rw [Int.zero_add]
    refine ⟨[some (pD p), some (.ref (h.length + 1)), some (.int k), none, none, none], _, rfl, ?_⟩
    have hq : p[k]? = some p[k] := List.getElem?_eq_getElem hk
    have hz : (p.zipIdx.map (rightD p))[k]? = some (rightD p (p[k], k)) := by
      rw [List.getElem?_map, List.getElem?_zipIdx, hq]
      simp
    generalize p[k] = a at hq hz
    have tk : (p.zipIdx.map (rightD p)).take (k + 1) = (p.zipIdx.map (rightD p)).take k ++ [rightD p (a, k)] := by
      rw [List.take_add_one, hz]; rfl
    have low : ∀ j, dLows 0 ((p.zipIdx.map (rightD p)).take j) = true := fun j => by
      rw [dLows_of, List.all_eq_true]
      intro d hd
      obtain ⟨x, _, rfl⟩ := List.mem_map.mp (List.mem_of_mem_take hd)
      exact right_low p x
    have hcl : ∀ j, Cl (h ++ [.lst (wordsD p), .lst ((p.zipIdx.map (rightD p)).take j)]) := fun j => hc.app0 (by simp only [List.all_cons, List.all_nil, words_low, Bool.and_true, Bool.true_and]; exact low j)
    have g1 : (h ++ [O.lst (wordsD p), O.lst ((p.zipIdx.map (rightD p)).take k)])[h.length + 1]? = some (.lst ((p.zipIdx.map (rightD p)).take k)) := app_get
    have t1 : (h ++ [O.lst (wordsD p), O.lst ((p.zipIdx.map (rightD p)).take k)]).set (h.length + 1) (O.lst ((p.zipIdx.map (rightD p)).take k ++ [rightD p (a, k)])) = h ++ [O.lst (wordsD p), O.lst ((p.zipIdx.map (rightD p)).take (k + 1))] := by rw [app_set, tk]; rfl
    unfold b1__law_program_right
    refine tidy_nx0 (e1 := [some (pD p), some (.ref (h.length + 1)), some (.int k), none, none, none]) ?_ (by simp) (hcl _) (by
      show eLow _ [some (pD p), some (D.ref (h.length + 1)), none, none, none, none] = true
      simp only [eLow_some, eLow_none, eLow_nil, dLow, List.length_append, List.length_cons, List.length_nil, prog_low, acc_low, kd_low, spot_low, ints_low, Bool.true_and, Bool.and_true, Bool.and_eq_true, decide_eq_true_eq, true_and, and_true]
      omega)
    have f : (if a.rd = true then (R.ok (D.tup ((worth p k a).map D.int)) (h ++ [O.lst (wordsD p), O.lst ((p.zipIdx.map (rightD p)).take k)]) : R D) else R.ok .non (h ++ [O.lst (wordsD p), O.lst ((p.zipIdx.map (rightD p)).take k)])) = .ok (rightD p (a, k)) (h ++ [O.lst (wordsD p), O.lst ((p.zipIdx.map (rightD p)).take k)]) := by
      unfold rightD
      split <;> rfl
    simp only [sSeq, sSet, sRet, sRetN, sIf, sPass, sExpr, sPar2, sAsg, tsB, tNotM, tAndM, tOrM, eAndM, eOrM, eNotM, eIfM, eOp1, eOp2, eOpN, eCall, DS.guard, aCons, aNil, eVar, eC, bind_ok, lft_some, ofR_ok, eIsi, Option.map_some, List.length_cons, List.length_nil, List.getElem?_cons_zero, List.getElem?_cons_succ, List.set_cons_zero, List.set_cons_succ, if_true, if_false, Bool.false_eq_true, Bool.not_true, Bool.not_false, Nat.reduceAdd, Nat.zero_add, reduceIte, eMethL, isL_ref g1, ix_prog hq, ix_acc0, kd_read', law_right_ok (hcl k) hq hp, f, append_ok g1 (show ((p.zipIdx.map (rightD p)).take k).length < 100000 by rw [List.length_take]; omega), t1]
theorem lr_q2 {p : Pr} {e1 e3 : Option D} {n : Nat} (hc : Cl h) (g : Good p) (hn : n < p.length) : q2__law_program_right [some (pD p), e1, some (.int n), e3, none, none] h = .ok (.ref h.length) (h ++ [.lst ((hangL p n p.length).map .int)]) := by
  have few := g.few
  unfold q2__law_program_right
  rw [comp_rng0 (n := p.length) (hangs p n) (fun k => .int (k : Int)) (iter_rng (by simp only [sSeq, sSet, sRet, sRetN, sIf, sPass, sExpr, sPar2, sAsg, tsB, tNotM, tAndM, tOrM, eAndM, eOrM, eNotM, eIfM, eOp1, eOp2, eOpN, eCall, DS.guard, aCons, aNil, eVar, eC, bind_ok, lft_some, ofR_ok, eIsi, Option.map_some, List.length_cons, List.length_nil, List.getElem?_cons_zero, List.getElem?_cons_succ, List.set_cons_zero, List.set_cons_succ, if_true, if_false, Bool.false_eq_true, Bool.not_true, Bool.not_false, Nat.reduceAdd, Nat.zero_add, reduceIte, len_prog]) (by omega)) (by omega) fun k hk => ⟨[some (pD p), e1, some (.int n), e3, some (.int k), none], rfl, ?_, fun _ => gc_pure rfl hc rfl⟩]
  · unfold hangL
    rw [List.map_map]
    rfl
  · simp only [sSeq, sSet, sRet, sRetN, sIf, sPass, sExpr, sPar2, sAsg, tsB, tNotM, tAndM, tOrM, eAndM, eOrM, eNotM, eIfM, eOp1, eOp2, eOpN, eCall, DS.guard, aCons, aNil, eVar, eC, bind_ok, lft_some, ofR_ok, eIsi, Option.map_some, List.length_cons, List.length_nil, List.getElem?_cons_zero, List.getElem?_cons_succ, List.set_cons_zero, List.set_cons_succ, if_true, if_false, Bool.false_eq_true, Bool.not_true, Bool.not_false, Nat.reduceAdd, Nat.zero_add, reduceIte, law_hangs_ok hc g hk]
theorem lr_l2 {p : Pr} (hc : Cl h) (g : Good p) {e1 : D} (h1 : dLow h.length e1 = true) : l2__law_program_right [some (pD p), some e1, none, none, none, none] h = .nx [some (pD p), some e1, none, none, none, none] h := by
  have few := g.few
  unfold l2__law_program_right
  rw [for_rngL (iter_rng (i := p.length) (h1 := h) (by simp only [sSeq, sSet, sRet, sRetN, sIf, sPass, sExpr, sPar2, sAsg, tsB, tNotM, tAndM, tOrM, eAndM, eOrM, eNotM, eIfM, eOp1, eOp2, eOpN, eCall, DS.guard, aCons, aNil, eVar, eC, bind_ok, lft_some, ofR_ok, eIsi, Option.map_some, List.length_cons, List.length_nil, List.getElem?_cons_zero, List.getElem?_cons_succ, List.set_cons_zero, List.set_cons_succ, if_true, if_false, Bool.false_eq_true, Bool.not_true, Bool.not_false, Nat.reduceAdd, Nat.zero_add, reduceIte, len_prog]) (by omega)), ints0]
  refine forL_same _ fun n hn => ⟨[some (pD p), some e1, some (.int n), none, none, none], h, rfl, ?_⟩
  have hlt := List.mem_range.mp hn
  have g0 : (h ++ [O.lst ((hangL p n p.length).map D.int)])[h.length]? = some (.lst ((hangL p n p.length).map D.int)) := app_get0
  have hc1 : Cl (h ++ [.lst ((hangL p n p.length).map .int)]) := hc.app0 (by simp only [List.all_cons, List.all_nil, oLow_ints, Bool.and_true])
  unfold b2__law_program_right
  refine tidy_nx (r := [.lst ((hangL p n p.length).map .int)]) (e1 := [some (pD p), some e1, some (.int n), some (.tup ((hangL p n p.length).map .int)), none, none]) ?_ rfl hc (by
    show eLow _ [some (pD p), some e1, none, none, none, none] = true
    simp only [eLow_some, eLow_none, eLow_nil, dLow, List.length_append, List.length_cons, List.length_nil, prog_low, acc_low, kd_low, spot_low, ints_low, Bool.true_and, Bool.and_true, Bool.and_eq_true, decide_eq_true_eq, true_and, and_true]
    exact h1)
  simp only [sSeq, sSet, sRet, sRetN, sIf, sPass, sExpr, sPar2, sAsg, tsB, tNotM, tAndM, tOrM, eAndM, eOrM, eNotM, eIfM, eOp1, eOp2, eOpN, eCall, DS.guard, aCons, aNil, eVar, eC, bind_ok, lft_some, ofR_ok, eIsi, Option.map_some, List.length_cons, List.length_nil, List.getElem?_cons_zero, List.getElem?_cons_succ, List.set_cons_zero, List.set_cons_succ, if_true, if_false, Bool.false_eq_true, Bool.not_true, Bool.not_false, Nat.reduceAdd, Nat.zero_add, reduceIte, lr_q2 hc g hlt, tuple_ref g0, hangers_of_ok hc1 g hlt, vNe_same ok_ints]
theorem law_program_right_ok {p : Pr} (hc : Cl h) (g : Good p) : f__law_program_right [pD p] h = .ok (.bl true) h := by
  have few := g.few
  have hc1 : Cl (h ++ [.lst (wordsD p)]) := hc.app0 (by simp only [List.all_cons, List.all_nil, words_low, Bool.and_true])
  have hc2 : Cl (h ++ [.lst (wordsD p), .lst (p.zipIdx.map (rightD p))]) := hc.app0 (by simp only [List.all_cons, List.all_nil, words_low, Bool.and_true, Bool.true_and]; exact rights_low p)
  have g0 : (h ++ [O.lst (wordsD p)])[h.length]? = some (.lst (wordsD p)) := app_get0
  have g1 : (h ++ [O.lst (wordsD p), O.lst (p.zipIdx.map (rightD p))])[h.length + 1]? = some (.lst (p.zipIdx.map (rightD p))) := app_get
  have g2 : (h ++ [O.lst (wordsD p), O.lst (p.zipIdx.map (rightD p)), O.lst (wordsD p)])[h.length + 2]? = some (.lst (wordsD p)) := app_get
  have q1 := (q_true (p := p) (e1 := none) (e2 := none) (e3 := none) (e4 := none) hc few).1
  have q3 := (q_true (p := p) (e1 := some (.ref (h.length + 1))) (e2 := none) (e3 := none) (e4 := none) hc2 few).2
  rw [List.append_assoc, List.length_append] at q3
  simp only [List.length_cons, List.length_nil, List.cons_append, List.nil_append, Nat.zero_add, Nat.reduceAdd] at q3
  refine mFn_ret (h1 := h) (r := [.lst (wordsD p), .lst (p.zipIdx.map (rightD p)), .lst (wordsD p)]) ?_ rfl hc rfl
  show m__law_program_right [some (pD p), none, none, none, none, none] h = _
  have l2 := lr_l2 hc2 g (e1 := .ref (h.length + 1)) (by simp only [dLow, List.length_append, List.length_cons, List.length_nil, decide_eq_true_eq]; omega)
  simp only [m__law_program_right, sSeq, sSet, sRet, sRetN, sIf, sPass, sExpr, sPar2, sAsg, tsB, tNotM, tAndM, tOrM, eAndM, eOrM, eNotM, eIfM, eOp1, eOp2, eOpN, eCall, DS.guard, aCons, aNil, eVar, eC, bind_ok, lft_some, ofR_ok, eIsi, Option.map_some, List.length_cons, List.length_nil, List.getElem?_cons_zero, List.getElem?_cons_succ, List.set_cons_zero, List.set_cons_succ, if_true, if_false, Bool.false_eq_true, Bool.not_true, Bool.not_false, Nat.reduceAdd, Nat.zero_add, reduceIte, need_program_ok hc g, vNe_same (prog_ok30 p), true_words_ok hc g, q1, tuple_ref g0, vNe_same (words_ok30 p), vLst_app (show ([] : List D).length ≤ 100000 by decide), List.cons_append, List.nil_append, lr_l1 hc few, right_worths_ok hc2 g, tuple_ref g1, vNe_same (rights_ok30 p), l2, true_words_ok hc2 g, q3, tuple_ref g2, vEq_same (words_ok30 p)]
theorem law_true (ns : List Int) (hl : ns.length ≤ 63) : ∃ h', f_law [.sl (ns.map .int)] [] = .ok (.bl true) h' := by
  have b := begin_eq hl
  have o := S.init_ok hl
  have lp : ∃ e' h', l1_law [some (.sl (ns.map .int)), some (.ref 3), none, none, none] (S.init ns).hp = .nx e' h' ∧ ∃ s : S, e' = [some (.sl (ns.map .int)), some (.ref 3), none, none, none] ∧ h' = s.hp ∧ s.ok 500 := by
    unfold l1_law
    refine for_rng_inv (mi := iRange1 (eC (.int 3))) (g := gName 2) (body := b1_law) (n := 3) (lo := 0) (h0 := (S.init ns).hp) (fun i e h => ∃ s : S, e = [some (.sl (ns.map .int)), some (.ref 3), none, none, none] ∧ h = s.hp ∧ s.ok (500 + 200 * (3 - i))) rfl ⟨S.init ns, rfl, rfl, o.mono (by decide)⟩ ?_
    rintro i e h hi ⟨s, rfl, rfl, ho⟩
    obtain ⟨p, s', gp, o', e1⟩ := law_program_ok (s := s) (N := 500 + 200 * (3 - (i + 1))) (ho.mono (by omega))
    refine ⟨[some (.sl (ns.map .int)), some (.ref 3), some (.int (0 + i)), none, none], s.hp, [some (.sl (ns.map .int)), some (.ref 3), none, none, none], s'.hp, rfl, ?_, s', rfl, rfl, o'⟩
    unfold b1_law
    refine tidy_nx0 (e1 := [some (.sl (ns.map .int)), some (.ref 3), some (.int (0 + i)), none, none]) ?_ rfl s'.cl0 (by
      show eLow _ [some (.sl (ns.map .int)), some (.ref 3), none, none, none] = true
      simp only [eLow_some, eLow_none, eLow_nil, dLow, List.length_append, List.length_cons, List.length_nil, prog_low, acc_low, kd_low, spot_low, ints_low, Bool.true_and, Bool.and_true, Bool.and_eq_true, decide_eq_true_eq, true_and, and_true, S.hp]
      decide)
    simp only [sSeq, sSet, sRet, sRetN, sIf, sPass, sExpr, sPar2, sAsg, tsB, tNotM, tAndM, tOrM, eAndM, eOrM, eNotM, eIfM, eOp1, eOp2, eOpN, eCall, DS.guard, aCons, aNil, eVar, eC, bind_ok, lft_some, ofR_ok, eIsi, Option.map_some, List.length_cons, List.length_nil, List.getElem?_cons_zero, List.getElem?_cons_succ, List.set_cons_zero, List.set_cons_succ, if_true, if_false, Bool.false_eq_true, Bool.not_true, Bool.not_false, Nat.reduceAdd, Nat.zero_add, reduceIte, e1, law_program_right_ok s'.cl0 gp]
  obtain ⟨e', h', l1, s, rfl, rfl, os⟩ := lp
  have d1 := draw_eq (s := s) (r := []) (m := 100) (os.mono (by decide)) (by rw [List.append_nil]; exact s.cl0) (by decide) (by decide)
  have d2 := draw_eq (s := s.next 100) (r := []) (m := 100) ((S.next_ok (os.mono (show 499 + 1 ≤ 500 by decide)) 100).mono (by decide)) (by rw [List.append_nil]; exact (s.next 100).cl0) (by decide) (by decide)
  rw [List.append_nil, List.append_nil] at d1 d2
  have wa : wOk (s.val 100) := ⟨s.val_lo (by decide), by have := s.val_hi (m := 100) (by decide); omega⟩
  have wb : wOk ((s.next 100).val 100) := ⟨(s.next 100).val_lo (by decide), by have := (s.next 100).val_hi (m := 100) (by decide); omega⟩
  generalize s.val 100 = a at *
  generalize (s.next 100).val 100 = c at *
  generalize (s.next 100).next 100 = s2 at *
  have k := s2.cl0
  have w0 : wOk 0 := ⟨by decide, by decide⟩
  have w99 : wOk 99 := ⟨by decide, by decide⟩
  have w3 : wOk 3 := ⟨by decide, by decide⟩
  have w96 : wOk 96 := ⟨by decide, by decide⟩
  have ee : ((a - c) % 4 == 0) = (a % 4 == c % 4) := by
    by_cases q : a % 4 = c % 4
    · rw [q, BEq.rfl, beq_iff_eq]; omega
    · rw [beq_eq_false_iff_ne.mpr q, beq_eq_false_iff_ne]; omega
  have body : ∃ r, m_law [some (.sl (ns.map .int)), none, none, none, none] [] = .ret (.bl true) (s2.hp ++ r) := by
    refine ⟨[.lst [.bl false, .bl true, .bl true], .lst [.bl false, .bl true, .bl true]], ?_⟩
    have n1 : ∀ x : Bool, vNe (.bl x) (.bl x) s2.hp = some (.bl false, s2.hp) := fun x => by cases x <;> rfl
    have n2 : vNotN (.bl true) (.bl true) s2.hp = some (.bl false, s2.hp) := rfl
    have z1 : ((0 : Int) % 4 == 99 % 4) = false := rfl
    have z2 : ((3 : Int) % 4 == 99 % 4) = true := rfl
    have z3 : ((96 : Int) % 4 == 0 % 4) = true := rfl
    have v1 : vLst [.bl false, .bl true, .bl true] s2.hp = some (.ref 4, s2.hp ++ [.lst [.bl false, .bl true, .bl true]]) := rfl
    have v2 : vLst [.bl false, .bl true, .bl true] (s2.hp ++ [.lst [.bl false, .bl true, .bl true]]) = some (.ref 5, s2.hp ++ [.lst [.bl false, .bl true, .bl true], .lst [.bl false, .bl true, .bl true]]) := rfl
    have v3 : vEq (.ref 4) (.ref 5) (s2.hp ++ [.lst [.bl false, .bl true, .bl true], .lst [.bl false, .bl true, .bl true]]) = some (.bl true, s2.hp ++ [.lst [.bl false, .bl true, .bl true], .lst [.bl false, .bl true, .bl true]]) := rfl
    simp only [m_law, sSeq, sSet, sRet, sRetN, sIf, sPass, sExpr, sPar2, sAsg, tsB, tNotM, tAndM, tOrM, eAndM, eOrM, eNotM, eIfM, eOp1, eOp2, eOpN, eCall, DS.guard, aCons, aNil, eVar, eC, bind_ok, lft_some, ofR_ok, eIsi, Option.map_some, List.length_cons, List.length_nil, List.getElem?_cons_zero, List.getElem?_cons_succ, List.set_cons_zero, List.set_cons_succ, if_true, if_false, Bool.false_eq_true, Bool.not_true, Bool.not_false, Nat.reduceAdd, Nat.zero_add, reduceIte, begin_def, b, l1, draw_def, d1, d2, looks_alike_ok k wa wb, vSub_int, vInt_int, vMod_ok (show (0 : Int) < 4 by decide), vEq_int, ee, n1, looks_alike_ok k wa wa, BEq.rfl, n2, looks_alike_ok k w0 w99, looks_alike_ok k w3 w99, looks_alike_ok k w96 w0, z1, z2, z3, v1, v2, v3]
  obtain ⟨r, body⟩ := body
  refine ⟨[], ?_⟩
  exact mFn_ret (h1 := []) (r := s2.hp ++ r) body rfl Cl.nil rfl
end K01

set_option Elab.async false
set_option linter.all false
set_option maxRecDepth 100000
set_option maxHeartbeats 4000000
namespace K01
open PySem PySem.Spec PyProof.Rows L2 DS
def topS (i : Nat) : Stmt := PySem.Challenge.pw_earlyreads_k01_whole_programs.main.body.getD i (.Pass ⟨0, 0, 0, 0⟩)
abbrev st_is_integer : Stmt := topS 16
abbrev N_is_integer : List Str := ["thing"]
abbrev P_is_integer : List Str := ["thing"]
abbrev st_is_between : Stmt := topS 17
abbrev N_is_between : List Str := ["thing", "least", "most"]
abbrev P_is_between : List Str := ["thing", "least", "most"]
abbrev st_is_word : Stmt := topS 18
abbrev N_is_word : List Str := ["thing"]
abbrev P_is_word : List Str := ["thing"]
abbrev st_is_one_of : Stmt := topS 19
abbrev N_is_one_of : List Str := ["some", "thing"]
abbrev P_is_one_of : List Str := ["some", "thing"]
abbrev st_is_place : Stmt := topS 20
abbrev N_is_place : List Str := ["program", "number", "thing"]
abbrev P_is_place : List Str := ["program", "number"]
abbrev st_need_program : Stmt := topS 21
abbrev N_need_program : List Str := ["thing", "number", "access"]
abbrev P_need_program : List Str := ["thing"]
abbrev st_cells_of : Stmt := topS 22
abbrev N_cells_of : List Str := ["access"]
abbrev P_cells_of : List Str := ["access"]
abbrev st_true_in : Stmt := topS 23
abbrev N_true_in : List Str := ["program", "kind", "size", "place"]
abbrev P_true_in : List Str := ["program"]
abbrev st_first_worth : Stmt := topS 24
abbrev N_first_worth : List Str := ["word"]
abbrev P_first_worth : List Str := ["word"]
abbrev st_youngest : Stmt := topS 25
abbrev N_youngest : List Str := ["numbers", "word"]
abbrev P_youngest : List Str := ["numbers", "word"]
abbrev st_right_in : Stmt := topS 26
abbrev N_right_in : List Str := ["program", "words", "found", "number", "access", "worth", "cell", "writes", "other"]
abbrev P_right_in : List Str := ["program"]
abbrev st_hanging_on : Stmt := topS 27
abbrev N_hanging_on : List Str := ["program", "number", "found", "other", "place"]
abbrev P_hanging_on : List Str := ["program", "number"]
abbrev st_true_words : Stmt := topS 28
abbrev N_true_words : List Str := ["program"]
abbrev P_true_words : List Str := ["program"]
abbrev st_right_worths : Stmt := topS 29
abbrev N_right_worths : List Str := ["program"]
abbrev P_right_worths : List Str := ["program"]
abbrev st_need_age : Stmt := topS 30
abbrev N_need_age : List Str := ["program", "number"]
abbrev P_need_age : List Str := ["program", "number"]
abbrev st_hangers_of : Stmt := topS 31
abbrev N_hangers_of : List Str := ["program", "number"]
abbrev P_hangers_of : List Str := ["program", "number"]
abbrev st_have_one_sign : Stmt := topS 32
abbrev N_have_one_sign : List Str := ["one", "other"]
abbrev P_have_one_sign : List Str := ["one", "other"]
abbrev st_looks_alike : Stmt := topS 33
abbrev N_looks_alike : List Str := ["one", "other", "word"]
abbrev P_looks_alike : List Str := ["one", "other"]
abbrev st__law_mixed : Stmt := topS 35
abbrev N__law_mixed : List Str := ["_law_cell", "_law_k"]
abbrev P__law_mixed : List Str := ["_law_cell", "_law_k"]
abbrev st__law_begin : Stmt := topS 36
abbrev N__law_begin : List Str := ["_law_script", "_law_cells_here", "_law_cell"]
abbrev P__law_begin : List Str := ["_law_script"]
abbrev st__law_draw : Stmt := topS 37
abbrev N__law_draw : List Str := ["_law_state", "_law_many", "_law_at", "_law_place", "_law_left", "_law_number"]
abbrev P__law_draw : List Str := ["_law_state", "_law_many"]
abbrev st__law_of : Stmt := topS 38
abbrev N__law_of : List Str := ["_law_state", "_law_some"]
abbrev P__law_of : List Str := ["_law_state", "_law_some"]
abbrev st__law_cells : Stmt := topS 39
abbrev N__law_cells : List Str := ["_law_size"]
abbrev P__law_cells : List Str := ["_law_size"]
abbrev st__law_true : Stmt := topS 40
abbrev N__law_true : List Str := ["_law_access"]
abbrev P__law_true : List Str := ["_law_access"]
abbrev st__law_right : Stmt := topS 41
abbrev N__law_right : List Str := ["_law_program_here", "_law_age", "_law_word", "_law_got", "_law_cell", "_law_maker", "_law_other", "_law_kind", "_law_size", "_law_spot"]
abbrev P__law_right : List Str := ["_law_program_here", "_law_age"]
abbrev st__law_hangs : Stmt := topS 42
abbrev N__law_hangs : List Str := ["_law_program_here", "_law_age", "_law_elder"]
abbrev P__law_hangs : List Str := ["_law_program_here", "_law_age", "_law_elder"]
abbrev st__law_rule : Stmt := topS 43
abbrev N__law_rule : List Str := ["_law_state", "_law_run", "_law_hand", "_law_look", "_law_spare", "_law_again", "_law_back", "_law_go"]
abbrev P__law_rule : List Str := ["_law_state"]
abbrev st__law_program : Stmt := topS 44
abbrev N__law_program : List Str := ["_law_state", "_law_most", "_law_rows", "_law_age", "_law_kind", "_law_size", "_law_words", "_law_spot", "_law_reads", "_law_k"]
abbrev P__law_program : List Str := ["_law_state", "_law_most"]
abbrev st__law_program_right : Stmt := topS 45
abbrev N__law_program_right : List Str := ["_law_program_here", "_law_due", "_law_age", "_law_some", "_law_k", "_law_one"]
abbrev P__law_program_right : List Str := ["_law_program_here"]
abbrev st_law : Stmt := topS 46
abbrev N_law : List Str := ["_law_script", "_law_state", "_law_turn", "_law_one", "_law_other"]
abbrev P_law : List Str := ["_law_script"]
structure Txt (P : Program) (w : World) (K : PySem.W.Frag) (mg : Str → Option Value) (base : Heap) (cl : Nat → Addr) : Prop where
  d_is_integer : DefAt K mg "is_integer" st_is_integer P_is_integer
  d_is_between : DefAt K mg "is_between" st_is_between P_is_between
  d_is_word : DefAt K mg "is_word" st_is_word P_is_word
  d_is_one_of : DefAt K mg "is_one_of" st_is_one_of P_is_one_of
  d_is_place : DefAt K mg "is_place" st_is_place P_is_place
  d_need_program : DefAt K mg "need_program" st_need_program P_need_program
  d_cells_of : DefAt K mg "cells_of" st_cells_of P_cells_of
  d_true_in : DefAt K mg "true_in" st_true_in P_true_in
  d_first_worth : DefAt K mg "first_worth" st_first_worth P_first_worth
  d_youngest : DefAt K mg "youngest" st_youngest P_youngest
  d_right_in : DefAt K mg "right_in" st_right_in P_right_in
  d_hanging_on : DefAt K mg "hanging_on" st_hanging_on P_hanging_on
  d_true_words : DefAt K mg "true_words" st_true_words P_true_words
  d_right_worths : DefAt K mg "right_worths" st_right_worths P_right_worths
  d_need_age : DefAt K mg "need_age" st_need_age P_need_age
  d_hangers_of : DefAt K mg "hangers_of" st_hangers_of P_hangers_of
  d_have_one_sign : DefAt K mg "have_one_sign" st_have_one_sign P_have_one_sign
  d_looks_alike : DefAt K mg "looks_alike" st_looks_alike P_looks_alike
  d__law_mixed : DefAt K mg "_law_mixed" st__law_mixed P__law_mixed
  d__law_begin : DefAt K mg "_law_begin" st__law_begin P__law_begin
  d__law_draw : DefAt K mg "_law_draw" st__law_draw P__law_draw
  d__law_of : DefAt K mg "_law_of" st__law_of P__law_of
  d__law_cells : DefAt K mg "_law_cells" st__law_cells P__law_cells
  d__law_true : DefAt K mg "_law_true" st__law_true P__law_true
  d__law_right : DefAt K mg "_law_right" st__law_right P__law_right
  d__law_hangs : DefAt K mg "_law_hangs" st__law_hangs P__law_hangs
  d__law_rule : DefAt K mg "_law_rule" st__law_rule P__law_rule
  d__law_program : DefAt K mg "_law_program" st__law_program P__law_program
  d__law_program_right : DefAt K mg "_law_program_right" st__law_program_right P__law_program_right
  d_law : DefAt K mg "law" st_law P_law
  n_bool : mg "bool" = none
  n_enumerate : mg "enumerate" = none
  n_int : mg "int" = none
  n_isinstance : mg "isinstance" = none
  n_len : mg "len" = none
  n_list : mg "list" = none
  n_max : mg "max" = none
  n_range : mg "range" = none
  n_str : mg "str" = none
  n_tuple : mg "tuple" = none
  c_READ : GC K mg "READ" c_READ
  c_WRITE : GC K mg "WRITE" c_WRITE
  c_LOW : GC K mg "LOW" c_LOW
  c_HIGH : GC K mg "HIGH" c_HIGH
  c_BOTH : GC K mg "BOTH" c_BOTH
  c_TOLD : GC K mg "TOLD" c_TOLD
  c_HUNG : GC K mg "HUNG" c_HUNG
  c_MOST_WORD : GC K mg "MOST_WORD" c_MOST_WORD
  c_MOST_ACCESSES : GC K mg "MOST_ACCESSES" c_MOST_ACCESSES
  c_SIGNS : GC K mg "SIGNS" c_SIGNS
  k_CELLS : KTab K w mg "CELLS" k_CELLS
theorem sc_is_integer : FnScope N_is_integer P_is_integer (defScope st_is_integer) := ⟨rfl, rfl, rfl, by decide +kernel, rfl, by decide +kernel, by decide +kernel⟩
theorem sc_is_between : FnScope N_is_between P_is_between (defScope st_is_between) := ⟨rfl, rfl, rfl, by decide +kernel, rfl, by decide +kernel, by decide +kernel⟩
theorem sc_is_word : FnScope N_is_word P_is_word (defScope st_is_word) := ⟨rfl, rfl, rfl, by decide +kernel, rfl, by decide +kernel, by decide +kernel⟩
theorem sc_is_one_of : FnScope N_is_one_of P_is_one_of (defScope st_is_one_of) := ⟨rfl, rfl, rfl, by decide +kernel, rfl, by decide +kernel, by decide +kernel⟩
theorem sc_is_place : FnScope N_is_place P_is_place (defScope st_is_place) := ⟨rfl, rfl, rfl, by decide +kernel, rfl, by decide +kernel, by decide +kernel⟩
theorem sc_need_program : FnScope N_need_program P_need_program (defScope st_need_program) := ⟨rfl, rfl, rfl, by decide +kernel, rfl, by decide +kernel, by decide +kernel⟩
theorem sc_cells_of : FnScope N_cells_of P_cells_of (defScope st_cells_of) := ⟨rfl, rfl, rfl, by decide +kernel, rfl, by decide +kernel, by decide +kernel⟩
theorem sc_true_in : FnScope N_true_in P_true_in (defScope st_true_in) := ⟨rfl, rfl, rfl, by decide +kernel, rfl, by decide +kernel, by decide +kernel⟩
theorem sc_first_worth : FnScope N_first_worth P_first_worth (defScope st_first_worth) := ⟨rfl, rfl, rfl, by decide +kernel, rfl, by decide +kernel, by decide +kernel⟩
theorem sc_youngest : FnScope N_youngest P_youngest (defScope st_youngest) := ⟨rfl, rfl, rfl, by decide +kernel, rfl, by decide +kernel, by decide +kernel⟩
theorem sc_right_in : FnScope N_right_in P_right_in (defScope st_right_in) := ⟨rfl, rfl, rfl, by decide +kernel, rfl, by decide +kernel, by decide +kernel⟩
theorem sc_hanging_on : FnScope N_hanging_on P_hanging_on (defScope st_hanging_on) := ⟨rfl, rfl, rfl, by decide +kernel, rfl, by decide +kernel, by decide +kernel⟩
theorem sc_true_words : FnScope N_true_words P_true_words (defScope st_true_words) := ⟨rfl, rfl, rfl, by decide +kernel, rfl, by decide +kernel, by decide +kernel⟩
theorem sc_right_worths : FnScope N_right_worths P_right_worths (defScope st_right_worths) := ⟨rfl, rfl, rfl, by decide +kernel, rfl, by decide +kernel, by decide +kernel⟩
theorem sc_need_age : FnScope N_need_age P_need_age (defScope st_need_age) := ⟨rfl, rfl, rfl, by decide +kernel, rfl, by decide +kernel, by decide +kernel⟩
theorem sc_hangers_of : FnScope N_hangers_of P_hangers_of (defScope st_hangers_of) := ⟨rfl, rfl, rfl, by decide +kernel, rfl, by decide +kernel, by decide +kernel⟩
theorem sc_have_one_sign : FnScope N_have_one_sign P_have_one_sign (defScope st_have_one_sign) := ⟨rfl, rfl, rfl, by decide +kernel, rfl, by decide +kernel, by decide +kernel⟩
theorem sc_looks_alike : FnScope N_looks_alike P_looks_alike (defScope st_looks_alike) := ⟨rfl, rfl, rfl, by decide +kernel, rfl, by decide +kernel, by decide +kernel⟩
theorem sc__law_mixed : FnScope N__law_mixed P__law_mixed (defScope st__law_mixed) := ⟨rfl, rfl, rfl, by decide +kernel, rfl, by decide +kernel, by decide +kernel⟩
theorem sc__law_begin : FnScope N__law_begin P__law_begin (defScope st__law_begin) := ⟨rfl, rfl, rfl, by decide +kernel, rfl, by decide +kernel, by decide +kernel⟩
theorem sc__law_draw : FnScope N__law_draw P__law_draw (defScope st__law_draw) := ⟨rfl, rfl, rfl, by decide +kernel, rfl, by decide +kernel, by decide +kernel⟩
theorem sc__law_of : FnScope N__law_of P__law_of (defScope st__law_of) := ⟨rfl, rfl, rfl, by decide +kernel, rfl, by decide +kernel, by decide +kernel⟩
theorem sc__law_cells : FnScope N__law_cells P__law_cells (defScope st__law_cells) := ⟨rfl, rfl, rfl, by decide +kernel, rfl, by decide +kernel, by decide +kernel⟩
theorem sc__law_true : FnScope N__law_true P__law_true (defScope st__law_true) := ⟨rfl, rfl, rfl, by decide +kernel, rfl, by decide +kernel, by decide +kernel⟩
theorem sc__law_right : FnScope N__law_right P__law_right (defScope st__law_right) := ⟨rfl, rfl, rfl, by decide +kernel, rfl, by decide +kernel, by decide +kernel⟩
theorem sc__law_hangs : FnScope N__law_hangs P__law_hangs (defScope st__law_hangs) := ⟨rfl, rfl, rfl, by decide +kernel, rfl, by decide +kernel, by decide +kernel⟩
theorem sc__law_rule : FnScope N__law_rule P__law_rule (defScope st__law_rule) := ⟨rfl, rfl, rfl, by decide +kernel, rfl, by decide +kernel, by decide +kernel⟩
theorem sc__law_program : FnScope N__law_program P__law_program (defScope st__law_program) := ⟨rfl, rfl, rfl, by decide +kernel, rfl, by decide +kernel, by decide +kernel⟩
theorem sc__law_program_right : FnScope N__law_program_right P__law_program_right (defScope st__law_program_right) := ⟨rfl, rfl, rfl, by decide +kernel, rfl, by decide +kernel, by decide +kernel⟩
theorem sc_law : FnScope N_law P_law (defScope st_law) := ⟨rfl, rfl, rfl, by decide +kernel, rfl, by decide +kernel, by decide +kernel⟩
section
variable {P : Program} {w : World} {K : PySem.W.Frag} {mg : Str → Option Value} {base : Heap} {cl : Nat → Addr}
theorem s_is_integer (T : Txt P w K mg base cl) : FnS P w K mg base cl 1 "is_integer" 1 f_is_integer :=
  FnS.mk (m := m_is_integer) T.d_is_integer sc_is_integer fun f cdv A outer s H E hr => by
    have nd := sc_is_integer.nd
    have tk : Takes (cxOf (L2.CX P w) P w K mg base N_is_integer "is_integer" (defScope st_is_integer) f cdv A outer s H E) (fun c d _ H' => E c d H') := takes_of rfl rfl rfl rfl
    have po : PassesOwn (model P w) (A.deeper (envOfC "is_integer" (defScope st_is_integer) s.heap.objs.size f cdv)) (envOfC "is_integer" (defScope st_is_integer) s.heap.objs.size f cdv) (cxOf (L2.CX P w) P w K mg base N_is_integer "is_integer" (defScope st_is_integer) f cdv A outer s H E).xe := passes_of rfl
    exact (sb_one (ss_ret (se_and (se_isi (T := .int) T.n_isinstance T.n_int (by decide +kernel) (se_var (i := 0))) (se_one (se_not (se_isi (T := .bl) T.n_isinstance T.n_bool (by decide +kernel) (se_var (i := 0))))))))
theorem s_is_between (T : Txt P w K mg base cl) : FnS P w K mg base cl 2 "is_between" 3 f_is_between :=
  FnS.mk (m := m_is_between) T.d_is_between sc_is_between fun f cdv A outer s H E hr => by
    have nd := sc_is_between.nd
    have tk : Takes (cxOf (L2.CX P w) P w K mg base N_is_between "is_between" (defScope st_is_between) f cdv A outer s H E) (fun c d _ H' => E c d H') := takes_of rfl rfl rfl rfl
    have po : PassesOwn (model P w) (A.deeper (envOfC "is_between" (defScope st_is_between) s.heap.objs.size f cdv)) (envOfC "is_between" (defScope st_is_between) s.heap.objs.size f cdv) (cxOf (L2.CX P w) P w K mg base N_is_between "is_between" (defScope st_is_between) f cdv A outer s H E).xe := passes_of rfl
    exact (sb_one (ss_ret (se_and (se_call (s_is_integer T) (hr.mono (by decide)) tk (sa_cons (se_var (i := 0)) sa_nil)) (se_one (se_chain o_le o_le (se_var (i := 1)) (se_var (i := 0)) (se_var (i := 2)))))))
theorem s_is_word (T : Txt P w K mg base cl) : FnS P w K mg base cl 3 "is_word" 1 f_is_word :=
  FnS.mk (m := m_is_word) T.d_is_word sc_is_word fun f cdv A outer s H E hr => by
    have nd := sc_is_word.nd
    have tk : Takes (cxOf (L2.CX P w) P w K mg base N_is_word "is_word" (defScope st_is_word) f cdv A outer s H E) (fun c d _ H' => E c d H') := takes_of rfl rfl rfl rfl
    have po : PassesOwn (model P w) (A.deeper (envOfC "is_word" (defScope st_is_word) s.heap.objs.size f cdv)) (envOfC "is_word" (defScope st_is_word) s.heap.objs.size f cdv) (cxOf (L2.CX P w) P w K mg base N_is_word "is_word" (defScope st_is_word) f cdv A outer s H E).xe := passes_of rfl
    exact (sb_one (ss_ret (se_call (s_is_between T) (hr.mono (by decide)) tk (sa_cons (se_var (i := 0)) (sa_cons se_int (sa_cons (se_glob T.c_MOST_WORD) sa_nil))))))
theorem s_is_one_of (T : Txt P w K mg base cl) : FnS P w K mg base cl 1 "is_one_of" 2 f_is_one_of :=
  FnS.mk (m := m_is_one_of) T.d_is_one_of sc_is_one_of fun f cdv A outer s H E hr => by
    have nd := sc_is_one_of.nd
    have tk : Takes (cxOf (L2.CX P w) P w K mg base N_is_one_of "is_one_of" (defScope st_is_one_of) f cdv A outer s H E) (fun c d _ H' => E c d H') := takes_of rfl rfl rfl rfl
    have po : PassesOwn (model P w) (A.deeper (envOfC "is_one_of" (defScope st_is_one_of) s.heap.objs.size f cdv)) (envOfC "is_one_of" (defScope st_is_one_of) s.heap.objs.size f cdv) (cxOf (L2.CX P w) P w K mg base N_is_one_of "is_one_of" (defScope st_is_one_of) f cdv A outer s H E).xe := passes_of rfl
    exact (sb_one (ss_ret (se_and (se_isi (T := .str) T.n_isinstance T.n_str (by decide +kernel) (se_var (i := 1))) (se_one (se_cmp o_in (se_var (i := 1)) (se_var (i := 0)))))))
theorem s_is_place (T : Txt P w K mg base cl) : FnS P w K mg base cl 4 "is_place" 2 f_is_place :=
  FnS.mk (m := m_is_place) T.d_is_place sc_is_place fun f cdv A outer s H E hr => by
    have nd := sc_is_place.nd
    have tk : Takes (cxOf (L2.CX P w) P w K mg base N_is_place "is_place" (defScope st_is_place) f cdv A outer s H E) (fun c d _ H' => E c d H') := takes_of rfl rfl rfl rfl
    have po : PassesOwn (model P w) (A.deeper (envOfC "is_place" (defScope st_is_place) s.heap.objs.size f cdv)) (envOfC "is_place" (defScope st_is_place) s.heap.objs.size f cdv) (cxOf (L2.CX P w) P w K mg base N_is_place "is_place" (defScope st_is_place) f cdv A outer s H E).xe := passes_of rfl
    exact (sb_cons (ss_set (k := 2) nd rfl (Or.inl rfl) (se_ix o_ix (se_ix o_ix (se_var (i := 0)) (se_var (i := 1))) se_int))
    (sb_cons (ss_if (st_bool (sw_or (st_not (st_val (se_isi (T := .tup) T.n_isinstance T.n_tuple (by decide +kernel) (se_var (i := 2))))) (sw_or (st_cmp (o_eq hr.units) (se_var (i := 2)) (se_tup sa_nil)) (sw_or1 (st_not (st_val (se_isi (T := .str) T.n_isinstance T.n_str (by decide +kernel) (se_ix o_ix (se_var (i := 2)) se_int)))))))) (sb_one (ss_ret se_bl)) sb_nil)
    (sb_cons (ss_if (st_cmp (o_eq hr.units) (se_ix o_ix (se_var (i := 2)) se_int) (se_glob T.c_TOLD)) (sb_one (ss_ret (se_and (se_cmp (o_eq hr.units) (se_callB b_len T.n_len (by decide +kernel) (sa_cons (se_var (i := 2)) sa_nil)) se_int) (se_one (se_call (s_is_word T) (hr.mono (by decide)) tk (sa_cons (se_ix o_ix (se_var (i := 2)) se_int) sa_nil)))))) sb_nil)
    (sb_cons (ss_if (st_bool (sw_or (st_cmp (o_ne hr.units) (se_ix o_ix (se_var (i := 2)) se_int) (se_glob T.c_HUNG)) (sw_or (st_cmp (o_ne hr.units) (se_callB b_len T.n_len (by decide +kernel) (sa_cons (se_var (i := 2)) sa_nil)) se_int) (sw_or1 (st_not (st_val (se_call (s_is_between T) (hr.mono (by decide)) tk (sa_cons (se_ix o_ix (se_var (i := 2)) se_int) (sa_cons se_int (sa_cons (se_op2 o_sub (se_var (i := 1)) se_int) sa_nil)))))))))) (sb_one (ss_ret se_bl)) sb_nil)
    (sb_one (ss_ret (se_and (se_cmp (o_eq hr.units) (se_ix o_ix (se_ix o_ix (se_var (i := 0)) (se_ix o_ix (se_var (i := 2)) se_int)) se_int) (se_glob T.c_READ)) (se_and (se_call (s_is_word T) (hr.mono (by decide)) tk (sa_cons (se_ix o_ix (se_var (i := 2)) se_int) sa_nil)) (se_one (se_call (s_is_word T) (hr.mono (by decide)) tk (sa_cons (se_ix o_ix (se_var (i := 2)) se_int) sa_nil)))))))))))
theorem s_need_program (T : Txt P w K mg base cl) : FnS P w K mg base cl 5 "need_program" 1 f_need_program :=
  FnS.mk (m := m_need_program) T.d_need_program sc_need_program fun f cdv A outer s H E hr => by
    have nd := sc_need_program.nd
    have tk : Takes (cxOf (L2.CX P w) P w K mg base N_need_program "need_program" (defScope st_need_program) f cdv A outer s H E) (fun c d _ H' => E c d H') := takes_of rfl rfl rfl rfl
    have po : PassesOwn (model P w) (A.deeper (envOfC "need_program" (defScope st_need_program) s.heap.objs.size f cdv)) (envOfC "need_program" (defScope st_need_program) s.heap.objs.size f cdv) (cxOf (L2.CX P w) P w K mg base N_need_program "need_program" (defScope st_need_program) f cdv A outer s H E).xe := passes_of rfl
    exact (sb_cons (ss_if (st_bool (sw_or (st_not (st_val (se_isi (T := .tup) T.n_isinstance T.n_tuple (by decide +kernel) (se_var (i := 0))))) (sw_or1 (st_not (st_chain o_le o_le se_int (se_callB b_len T.n_len (by decide +kernel) (sa_cons (se_var (i := 0)) sa_nil)) (se_glob T.c_MOST_ACCESSES)))))) (sb_one ss_bad) sb_nil)
    (sb_cons (ss_for po rfl (si_enum T.n_enumerate (se_var (i := 0))) (sg_tup rfl (sgs_cons (sg_name (k := 1) nd rfl (Or.inl rfl)) (sgs_cons (sg_name (k := 2) nd rfl (Or.inl rfl)) sgs_nil))) (sb_tidy (sb_cons (ss_if (st_bool (sw_or (st_not (st_val (se_isi (T := .tup) T.n_isinstance T.n_tuple (by decide +kernel) (se_var (i := 2))))) (sw_or1 (st_cmp (o_ne hr.units) (se_callB b_len T.n_len (by decide +kernel) (sa_cons (se_var (i := 2)) sa_nil)) se_int)))) (sb_one ss_bad) sb_nil)
    (sb_one (ss_if (st_bool (sw_or (st_not (st_val (se_call (s_is_one_of T) (hr.mono (by decide)) tk (sa_cons (se_tup (sa_cons (se_glob T.c_READ) (sa_cons (se_glob T.c_WRITE) sa_nil))) (sa_cons (se_ix o_ix (se_var (i := 2)) se_int) sa_nil))))) (sw_or1 (st_not (st_val (se_call (s_is_one_of T) (hr.mono (by decide)) tk (sa_cons (se_tup (sa_cons (se_glob T.c_LOW) (sa_cons (se_glob T.c_HIGH) (sa_cons (se_glob T.c_BOTH) sa_nil)))) (sa_cons (se_ix o_ix (se_var (i := 2)) se_int) sa_nil)))))))) (sb_one ss_bad) sb_nil)))))
    (sb_cons (ss_for po rfl (si_range1 T.n_range (se_callB b_len T.n_len (by decide +kernel) (sa_cons (se_var (i := 0)) sa_nil))) (sg_name (k := 1) nd rfl (Or.inl rfl)) (sb_tidy (sb_one (ss_if (st_not (st_val (se_call (s_is_place T) (hr.mono (by decide)) tk (sa_cons (se_var (i := 0)) (sa_cons (se_var (i := 1)) sa_nil))))) (sb_one ss_bad) sb_nil))))
    (sb_one (ss_ret (se_var (i := 0)))))))
theorem s_cells_of (T : Txt P w K mg base cl) : FnS P w K mg base cl 1 "cells_of" 1 f_cells_of :=
  FnS.mk (m := m_cells_of) T.d_cells_of sc_cells_of fun f cdv A outer s H E hr => by
    have nd := sc_cells_of.nd
    have tk : Takes (cxOf (L2.CX P w) P w K mg base N_cells_of "cells_of" (defScope st_cells_of) f cdv A outer s H E) (fun c d _ H' => E c d H') := takes_of rfl rfl rfl rfl
    have po : PassesOwn (model P w) (A.deeper (envOfC "cells_of" (defScope st_cells_of) s.heap.objs.size f cdv)) (envOfC "cells_of" (defScope st_cells_of) s.heap.objs.size f cdv) (cxOf (L2.CX P w) P w K mg base N_cells_of "cells_of" (defScope st_cells_of) f cdv A outer s H E).xe := passes_of rfl
    exact (sb_one (ss_ret (se_kget T.k_CELLS (se_ix o_ix (se_var (i := 0)) se_int))))
theorem s_true_in (T : Txt P w K mg base cl) : FnS P w K mg base cl 1 "true_in" 1 f_true_in :=
  FnS.mk (m := m_true_in) T.d_true_in sc_true_in fun f cdv A outer s H E hr => by
    have nd := sc_true_in.nd
    have tk : Takes (cxOf (L2.CX P w) P w K mg base N_true_in "true_in" (defScope st_true_in) f cdv A outer s H E) (fun c d _ H' => E c d H') := takes_of rfl rfl rfl rfl
    have po : PassesOwn (model P w) (A.deeper (envOfC "true_in" (defScope st_true_in) s.heap.objs.size f cdv)) (envOfC "true_in" (defScope st_true_in) s.heap.objs.size f cdv) (cxOf (L2.CX P w) P w K mg base N_true_in "true_in" (defScope st_true_in) f cdv A outer s H E).xe := passes_of rfl
    exact (sb_one (ss_ret (se_comp (own := [("kind", 1), ("size", 2), ("place", 3)]) (g := (.tp [1, 2, 3])) rfl nd (si_seq (se_var (i := 0))) (blkOk_by (own := [("kind", 1), ("size", 2), ("place", 3)]) (N := N_true_in) (sc := defScope st_true_in) (by decide +kernel)) (fun _ _ _ _ _ => pg_tup rfl (pgs_cons (pg_name (i := 1) nd rfl (by first | exact Or.inl rfl | exact Or.inr rfl)) (pgs_cons (pg_name (i := 2) nd rfl (by first | exact Or.inl rfl | exact Or.inr rfl)) (pgs_cons (pg_name (i := 3) nd rfl (by first | exact Or.inl rfl | exact Or.inr rfl)) pgs_nil)))) (fun _ _ _ _ _ => sts_nil) (fun _ _ _ _ _ => (se_ifExp (st_cmp (o_eq hr.units) (se_ix o_ix (se_var (i := 3)) se_int) (se_glob T.c_TOLD)) (se_ix o_ix (se_var (i := 3)) se_int) (se_ix o_ix (se_var (i := 3)) se_int))))))
theorem s_first_worth (T : Txt P w K mg base cl) : FnS P w K mg base cl 1 "first_worth" 1 f_first_worth :=
  FnS.mk (m := m_first_worth) T.d_first_worth sc_first_worth fun f cdv A outer s H E hr => by
    have nd := sc_first_worth.nd
    have tk : Takes (cxOf (L2.CX P w) P w K mg base N_first_worth "first_worth" (defScope st_first_worth) f cdv A outer s H E) (fun c d _ H' => E c d H') := takes_of rfl rfl rfl rfl
    have po : PassesOwn (model P w) (A.deeper (envOfC "first_worth" (defScope st_first_worth) s.heap.objs.size f cdv)) (envOfC "first_worth" (defScope st_first_worth) s.heap.objs.size f cdv) (cxOf (L2.CX P w) P w K mg base N_first_worth "first_worth" (defScope st_first_worth) f cdv A outer s H E).xe := passes_of rfl
    exact (sb_one (ss_ret (se_op2 o_sub (se_op1 o_neg se_int) (se_var (i := 0)))))
theorem s_youngest (T : Txt P w K mg base cl) : FnS P w K mg base cl 2 "youngest" 2 f_youngest :=
  FnS.mk (m := m_youngest) T.d_youngest sc_youngest fun f cdv A outer s H E hr => by
    have nd := sc_youngest.nd
    have tk : Takes (cxOf (L2.CX P w) P w K mg base N_youngest "youngest" (defScope st_youngest) f cdv A outer s H E) (fun c d _ H' => E c d H') := takes_of rfl rfl rfl rfl
    have po : PassesOwn (model P w) (A.deeper (envOfC "youngest" (defScope st_youngest) s.heap.objs.size f cdv)) (envOfC "youngest" (defScope st_youngest) s.heap.objs.size f cdv) (cxOf (L2.CX P w) P w K mg base N_youngest "youngest" (defScope st_youngest) f cdv A outer s H E).xe := passes_of rfl
    exact (sb_one (ss_ret (se_ifExp (st_cmp (o_ne hr.units) (se_var (i := 0)) (se_lst sa_nil)) (se_callB (b_max rfl) T.n_max (by decide +kernel) (sa_cons (se_var (i := 0)) sa_nil)) (se_call (s_first_worth T) (hr.mono (by decide)) tk (sa_cons (se_var (i := 1)) sa_nil)))))
theorem s_right_in (T : Txt P w K mg base cl) : FnS P w K mg base cl 3 "right_in" 1 f_right_in :=
  FnS.mk (m := m_right_in) T.d_right_in sc_right_in fun f cdv A outer s H E hr => by
    have nd := sc_right_in.nd
    have tk : Takes (cxOf (L2.CX P w) P w K mg base N_right_in "right_in" (defScope st_right_in) f cdv A outer s H E) (fun c d _ H' => E c d H') := takes_of rfl rfl rfl rfl
    have po : PassesOwn (model P w) (A.deeper (envOfC "right_in" (defScope st_right_in) s.heap.objs.size f cdv)) (envOfC "right_in" (defScope st_right_in) s.heap.objs.size f cdv) (cxOf (L2.CX P w) P w K mg base N_right_in "right_in" (defScope st_right_in) f cdv A outer s H E).xe := passes_of rfl
    exact (sb_cons (ss_par2 (k := 1) (l := 2) rfl nd rfl rfl (by decide) rfl rfl (sa_cons (se_call (s_true_in T) (hr.mono (by decide)) tk (sa_cons (se_var (i := 0)) sa_nil)) (sa_cons (se_lst sa_nil) sa_nil)))
    (sb_cons (ss_for po rfl (si_enum T.n_enumerate (se_var (i := 0))) (sg_tup rfl (sgs_cons (sg_name (k := 3) nd rfl (Or.inl rfl)) (sgs_cons (sg_name (k := 4) nd rfl (Or.inl rfl)) sgs_nil))) (sb_tidy (sb_cons (ss_set (k := 5) nd rfl (Or.inl rfl) (se_lst sa_nil))
    (sb_cons (ss_for po rfl (si_seq (se_call (s_cells_of T) (hr.mono (by decide)) tk (sa_cons (se_var (i := 4)) sa_nil))) (sg_name (k := 6) nd rfl (Or.inl rfl)) (sb_tidy (sb_cons (ss_set (k := 7) nd rfl (Or.inl rfl) (se_lst sa_nil))
    (sb_cons (ss_for po rfl (si_range1 T.n_range (se_var (i := 3))) (sg_name (k := 8) nd rfl (Or.inl rfl)) (sb_tidy (sb_one (ss_if (st_bool (sw_and (st_cmp (o_eq hr.units) (se_ix o_ix (se_ix o_ix (se_var (i := 0)) (se_var (i := 8))) se_int) (se_glob T.c_WRITE)) (sw_and (st_cmp (o_eq hr.units) (se_ix o_ix (se_var (i := 1)) (se_var (i := 8))) (se_ix o_ix (se_var (i := 1)) (se_var (i := 3)))) (sw_and1 (st_cmp o_in (se_var (i := 6)) (se_call (s_cells_of T) (hr.mono (by decide)) tk (sa_cons (se_ix o_ix (se_var (i := 0)) (se_var (i := 8))) sa_nil))))))) (sb_one (ss_expr (se_append (se_var (i := 7)) (sa_cons (se_var (i := 8)) sa_nil)))) sb_nil))))
    (sb_one (ss_expr (se_append (se_var (i := 5)) (sa_cons (se_call (s_youngest T) (hr.mono (by decide)) tk (sa_cons (se_var (i := 7)) (sa_cons (se_ix o_ix (se_var (i := 1)) (se_var (i := 3))) sa_nil))) sa_nil))))))))
    (sb_one (ss_expr (se_append (se_var (i := 2)) (sa_cons (se_ifExp (st_cmp (o_eq hr.units) (se_ix o_ix (se_var (i := 4)) se_int) (se_glob T.c_READ)) (se_callT b_tuple T.n_tuple (by decide +kernel) (sa_cons (se_var (i := 5)) sa_nil)) se_non) sa_nil))))))))
    (sb_one (ss_ret (se_var (i := 2))))))
theorem s_hanging_on (T : Txt P w K mg base cl) : FnS P w K mg base cl 1 "hanging_on" 2 f_hanging_on :=
  FnS.mk (m := m_hanging_on) T.d_hanging_on sc_hanging_on fun f cdv A outer s H E hr => by
    have nd := sc_hanging_on.nd
    have tk : Takes (cxOf (L2.CX P w) P w K mg base N_hanging_on "hanging_on" (defScope st_hanging_on) f cdv A outer s H E) (fun c d _ H' => E c d H') := takes_of rfl rfl rfl rfl
    have po : PassesOwn (model P w) (A.deeper (envOfC "hanging_on" (defScope st_hanging_on) s.heap.objs.size f cdv)) (envOfC "hanging_on" (defScope st_hanging_on) s.heap.objs.size f cdv) (cxOf (L2.CX P w) P w K mg base N_hanging_on "hanging_on" (defScope st_hanging_on) f cdv A outer s H E).xe := passes_of rfl
    exact (sb_cons (ss_set (k := 2) nd rfl (Or.inl rfl) (se_lst sa_nil))
    (sb_cons (ss_for po rfl (si_range2 T.n_range (se_op2 o_add (se_var (i := 1)) se_int) (se_callB b_len T.n_len (by decide +kernel) (sa_cons (se_var (i := 0)) sa_nil))) (sg_name (k := 3) nd rfl (Or.inl rfl)) (sb_tidy (sb_cons (ss_set (k := 4) nd rfl (Or.inl rfl) (se_ix o_ix (se_ix o_ix (se_var (i := 0)) (se_var (i := 3))) se_int))
    (sb_one (ss_if (st_bool (sw_and (st_cmp (o_eq hr.units) (se_ix o_ix (se_var (i := 4)) se_int) (se_glob T.c_HUNG)) (sw_and1 (st_bool (sw_or (st_cmp (o_eq hr.units) (se_ix o_ix (se_var (i := 4)) se_int) (se_var (i := 1))) (sw_or1 (st_cmp o_in (se_ix o_ix (se_var (i := 4)) se_int) (se_var (i := 2))))))))) (sb_one (ss_expr (se_append (se_var (i := 2)) (sa_cons (se_var (i := 3)) sa_nil)))) sb_nil)))))
    (sb_one (ss_ret (se_var (i := 2))))))
theorem s_true_words (T : Txt P w K mg base cl) : FnS P w K mg base cl 6 "true_words" 1 f_true_words :=
  FnS.mk (m := m_true_words) T.d_true_words sc_true_words fun f cdv A outer s H E hr => by
    have nd := sc_true_words.nd
    have tk : Takes (cxOf (L2.CX P w) P w K mg base N_true_words "true_words" (defScope st_true_words) f cdv A outer s H E) (fun c d _ H' => E c d H') := takes_of rfl rfl rfl rfl
    have po : PassesOwn (model P w) (A.deeper (envOfC "true_words" (defScope st_true_words) s.heap.objs.size f cdv)) (envOfC "true_words" (defScope st_true_words) s.heap.objs.size f cdv) (cxOf (L2.CX P w) P w K mg base N_true_words "true_words" (defScope st_true_words) f cdv A outer s H E).xe := passes_of rfl
    exact (sb_one (ss_ret (se_callT b_tuple T.n_tuple (by decide +kernel) (sa_cons (se_call (s_true_in T) (hr.mono (by decide)) tk (sa_cons (se_call (s_need_program T) (hr.mono (by decide)) tk (sa_cons (se_var (i := 0)) sa_nil)) sa_nil)) sa_nil))))
theorem s_right_worths (T : Txt P w K mg base cl) : FnS P w K mg base cl 6 "right_worths" 1 f_right_worths :=
  FnS.mk (m := m_right_worths) T.d_right_worths sc_right_worths fun f cdv A outer s H E hr => by
    have nd := sc_right_worths.nd
    have tk : Takes (cxOf (L2.CX P w) P w K mg base N_right_worths "right_worths" (defScope st_right_worths) f cdv A outer s H E) (fun c d _ H' => E c d H') := takes_of rfl rfl rfl rfl
    have po : PassesOwn (model P w) (A.deeper (envOfC "right_worths" (defScope st_right_worths) s.heap.objs.size f cdv)) (envOfC "right_worths" (defScope st_right_worths) s.heap.objs.size f cdv) (cxOf (L2.CX P w) P w K mg base N_right_worths "right_worths" (defScope st_right_worths) f cdv A outer s H E).xe := passes_of rfl
    exact (sb_one (ss_ret (se_callT b_tuple T.n_tuple (by decide +kernel) (sa_cons (se_call (s_right_in T) (hr.mono (by decide)) tk (sa_cons (se_call (s_need_program T) (hr.mono (by decide)) tk (sa_cons (se_var (i := 0)) sa_nil)) sa_nil)) sa_nil))))
theorem s_need_age (T : Txt P w K mg base cl) : FnS P w K mg base cl 3 "need_age" 2 f_need_age :=
  FnS.mk (m := m_need_age) T.d_need_age sc_need_age fun f cdv A outer s H E hr => by
    have nd := sc_need_age.nd
    have tk : Takes (cxOf (L2.CX P w) P w K mg base N_need_age "need_age" (defScope st_need_age) f cdv A outer s H E) (fun c d _ H' => E c d H') := takes_of rfl rfl rfl rfl
    have po : PassesOwn (model P w) (A.deeper (envOfC "need_age" (defScope st_need_age) s.heap.objs.size f cdv)) (envOfC "need_age" (defScope st_need_age) s.heap.objs.size f cdv) (cxOf (L2.CX P w) P w K mg base N_need_age "need_age" (defScope st_need_age) f cdv A outer s H E).xe := passes_of rfl
    exact (sb_cons (ss_if (st_not (st_val (se_call (s_is_between T) (hr.mono (by decide)) tk (sa_cons (se_var (i := 1)) (sa_cons se_int (sa_cons (se_op2 o_sub (se_callB b_len T.n_len (by decide +kernel) (sa_cons (se_var (i := 0)) sa_nil)) se_int) sa_nil)))))) (sb_one ss_bad) sb_nil)
    (sb_one (ss_ret (se_var (i := 1)))))
theorem s_hangers_of (T : Txt P w K mg base cl) : FnS P w K mg base cl 6 "hangers_of" 2 f_hangers_of :=
  FnS.mk (m := m_hangers_of) T.d_hangers_of sc_hangers_of fun f cdv A outer s H E hr => by
    have nd := sc_hangers_of.nd
    have tk : Takes (cxOf (L2.CX P w) P w K mg base N_hangers_of "hangers_of" (defScope st_hangers_of) f cdv A outer s H E) (fun c d _ H' => E c d H') := takes_of rfl rfl rfl rfl
    have po : PassesOwn (model P w) (A.deeper (envOfC "hangers_of" (defScope st_hangers_of) s.heap.objs.size f cdv)) (envOfC "hangers_of" (defScope st_hangers_of) s.heap.objs.size f cdv) (cxOf (L2.CX P w) P w K mg base N_hangers_of "hangers_of" (defScope st_hangers_of) f cdv A outer s H E).xe := passes_of rfl
    exact (sb_cons (ss_expr (se_call (s_need_program T) (hr.mono (by decide)) tk (sa_cons (se_var (i := 0)) sa_nil)))
    (sb_one (ss_ret (se_callT b_tuple T.n_tuple (by decide +kernel) (sa_cons (se_call (s_hanging_on T) (hr.mono (by decide)) tk (sa_cons (se_var (i := 0)) (sa_cons (se_call (s_need_age T) (hr.mono (by decide)) tk (sa_cons (se_var (i := 0)) (sa_cons (se_var (i := 1)) sa_nil))) sa_nil))) sa_nil)))))
theorem s_have_one_sign (T : Txt P w K mg base cl) : FnS P w K mg base cl 1 "have_one_sign" 2 f_have_one_sign :=
  FnS.mk (m := m_have_one_sign) T.d_have_one_sign sc_have_one_sign fun f cdv A outer s H E hr => by
    have nd := sc_have_one_sign.nd
    have tk : Takes (cxOf (L2.CX P w) P w K mg base N_have_one_sign "have_one_sign" (defScope st_have_one_sign) f cdv A outer s H E) (fun c d _ H' => E c d H') := takes_of rfl rfl rfl rfl
    have po : PassesOwn (model P w) (A.deeper (envOfC "have_one_sign" (defScope st_have_one_sign) s.heap.objs.size f cdv)) (envOfC "have_one_sign" (defScope st_have_one_sign) s.heap.objs.size f cdv) (cxOf (L2.CX P w) P w K mg base N_have_one_sign "have_one_sign" (defScope st_have_one_sign) f cdv A outer s H E).xe := passes_of rfl
    exact (sb_one (ss_ret (se_cmp (o_eq hr.units) (se_op2 o_mod (se_callT b_int T.n_int (by decide +kernel) (sa_cons (se_var (i := 0)) sa_nil)) (se_glob T.c_SIGNS)) (se_op2 o_mod (se_callT b_int T.n_int (by decide +kernel) (sa_cons (se_var (i := 1)) sa_nil)) (se_glob T.c_SIGNS)))))
theorem s_looks_alike (T : Txt P w K mg base cl) : FnS P w K mg base cl 4 "looks_alike" 2 f_looks_alike :=
  FnS.mk (m := m_looks_alike) T.d_looks_alike sc_looks_alike fun f cdv A outer s H E hr => by
    have nd := sc_looks_alike.nd
    have tk : Takes (cxOf (L2.CX P w) P w K mg base N_looks_alike "looks_alike" (defScope st_looks_alike) f cdv A outer s H E) (fun c d _ H' => E c d H') := takes_of rfl rfl rfl rfl
    have po : PassesOwn (model P w) (A.deeper (envOfC "looks_alike" (defScope st_looks_alike) s.heap.objs.size f cdv)) (envOfC "looks_alike" (defScope st_looks_alike) s.heap.objs.size f cdv) (cxOf (L2.CX P w) P w K mg base N_looks_alike "looks_alike" (defScope st_looks_alike) f cdv A outer s H E).xe := passes_of rfl
    exact (sb_cons (ss_for po rfl (si_seq (se_tup (sa_cons (se_var (i := 0)) (sa_cons (se_var (i := 1)) sa_nil)))) (sg_name (k := 2) nd rfl (Or.inl rfl)) (sb_tidy (sb_one (ss_if (st_not (st_val (se_call (s_is_word T) (hr.mono (by decide)) tk (sa_cons (se_var (i := 2)) sa_nil)))) (sb_one ss_bad) sb_nil))))
    (sb_one (ss_ret (se_call (s_have_one_sign T) (hr.mono (by decide)) tk (sa_cons (se_var (i := 0)) (sa_cons (se_var (i := 1)) sa_nil))))))
theorem s__law_mixed (T : Txt P w K mg base cl) : FnS P w K mg base cl 1 "_law_mixed" 2 f__law_mixed :=
  FnS.mk (m := m__law_mixed) T.d__law_mixed sc__law_mixed fun f cdv A outer s H E hr => by
    have nd := sc__law_mixed.nd
    have tk : Takes (cxOf (L2.CX P w) P w K mg base N__law_mixed "_law_mixed" (defScope st__law_mixed) f cdv A outer s H E) (fun c d _ H' => E c d H') := takes_of rfl rfl rfl rfl
    have po : PassesOwn (model P w) (A.deeper (envOfC "_law_mixed" (defScope st__law_mixed) s.heap.objs.size f cdv)) (envOfC "_law_mixed" (defScope st__law_mixed) s.heap.objs.size f cdv) (cxOf (L2.CX P w) P w K mg base N__law_mixed "_law_mixed" (defScope st__law_mixed) f cdv A outer s H E).xe := passes_of rfl
    exact (sb_cons (ss_set (k := 0) nd rfl (Or.inl rfl) (se_op2 o_mod (se_callT b_int T.n_int (by decide +kernel) (sa_cons (se_var (i := 0)) sa_nil)) se_int))
    (sb_one (ss_ret (se_op2 o_mod (se_op2 o_mul (se_op2 o_mod (se_op2 o_add (se_op2 o_add (se_op2 o_mul (se_var (i := 0)) (se_op2 o_add se_int (se_op2 o_mul (se_op2 o_mul se_int (se_var (i := 1))) (se_var (i := 1))))) (se_op2 o_mul se_int (se_var (i := 1)))) se_int) se_int) se_int) se_int))))
theorem s__law_begin (T : Txt P w K mg base cl) : FnS P w K mg base cl 1 "_law_begin" 1 f__law_begin :=
  FnS.mk (m := m__law_begin) T.d__law_begin sc__law_begin fun f cdv A outer s H E hr => by
    have nd := sc__law_begin.nd
    have tk : Takes (cxOf (L2.CX P w) P w K mg base N__law_begin "_law_begin" (defScope st__law_begin) f cdv A outer s H E) (fun c d _ H' => E c d H') := takes_of rfl rfl rfl rfl
    have po : PassesOwn (model P w) (A.deeper (envOfC "_law_begin" (defScope st__law_begin) s.heap.objs.size f cdv)) (envOfC "_law_begin" (defScope st__law_begin) s.heap.objs.size f cdv) (cxOf (L2.CX P w) P w K mg base N__law_begin "_law_begin" (defScope st__law_begin) f cdv A outer s H E).xe := passes_of rfl
    exact (sb_cons (ss_set (k := 1) nd rfl (Or.inl rfl) (se_ifExp (st_cmp (o_ne hr.units) (se_var (i := 0)) (se_lst sa_nil)) (se_callT b_list T.n_list (by decide +kernel) (sa_cons (se_var (i := 0)) sa_nil)) (se_lst (sa_cons se_int sa_nil))))
    (sb_one (ss_ret (se_dict (.cons se_str (se_var (i := 1)) (.cons se_str (se_comp (own := [("_law_cell", 2)]) (g := (.nm 2)) rfl nd (si_seq (se_var (i := 1))) (blkOk_by (own := [("_law_cell", 2)]) (N := N__law_begin) (sc := defScope st__law_begin) (by decide +kernel)) (fun _ _ _ _ _ => pg_name (i := 2) nd rfl (Or.inl rfl)) (fun _ _ _ _ _ => sts_nil) (fun _ _ _ _ _ => (se_ifExp (st_cmp o_ge (se_var (i := 2)) (se_op2 o_pow se_int se_int)) (se_var (i := 2)) se_int))) (.cons se_str se_int (.cons se_str se_int .nil))))))))
theorem s__law_draw (T : Txt P w K mg base cl) : FnS P w K mg base cl 2 "_law_draw" 2 f__law_draw :=
  FnS.mk (m := m__law_draw) T.d__law_draw sc__law_draw fun f cdv A outer s H E hr => by
    have nd := sc__law_draw.nd
    have tk : Takes (cxOf (L2.CX P w) P w K mg base N__law_draw "_law_draw" (defScope st__law_draw) f cdv A outer s H E) (fun c d _ H' => E c d H') := takes_of rfl rfl rfl rfl
    have po : PassesOwn (model P w) (A.deeper (envOfC "_law_draw" (defScope st__law_draw) s.heap.objs.size f cdv)) (envOfC "_law_draw" (defScope st__law_draw) s.heap.objs.size f cdv) (cxOf (L2.CX P w) P w K mg base N__law_draw "_law_draw" (defScope st__law_draw) f cdv A outer s H E).xe := passes_of rfl
    exact (sb_cons (ss_set (k := 2) nd rfl (Or.inl rfl) (se_dget (hu_of hr) (se_var (i := 0)) se_str))
    (sb_cons (ss_dput (hu_of hr) (se_op2 o_add (se_var (i := 2)) se_int) (se_var (i := 0)) se_str)
    (sb_cons (ss_set (k := 3) nd rfl (Or.inl rfl) (se_op2 o_mod (se_callT b_int T.n_int (by decide +kernel) (sa_cons (se_var (i := 2)) sa_nil)) (se_callB b_len T.n_len (by decide +kernel) (sa_cons (se_dget (hu_of hr) (se_var (i := 0)) se_str) sa_nil))))
    (sb_cons (ss_set (k := 4) nd rfl (Or.inl rfl) (se_ix o_ix (se_dget (hu_of hr) (se_var (i := 0)) se_str) (se_var (i := 3))))
    (sb_cons (ss_if (st_cmp o_gt (se_var (i := 4)) se_int) (sb_cons (ss_lput (se_op2 o_fdiv (se_var (i := 4)) (se_var (i := 1))) (se_dget (hu_of hr) (se_var (i := 0)) se_str) (se_var (i := 3)))
    (sb_one (ss_ret (se_op2 o_mod (se_callT b_int T.n_int (by decide +kernel) (sa_cons (se_var (i := 4)) sa_nil)) (se_var (i := 1)))))) sb_nil)
    (sb_cons (ss_set (k := 5) nd rfl (Or.inl rfl) (se_call (s__law_mixed T) (hr.mono (by decide)) tk (sa_cons (se_call (s__law_mixed T) (hr.mono (by decide)) tk (sa_cons (se_ix o_ix (se_dget (hu_of hr) (se_var (i := 0)) se_str) (se_var (i := 3))) (sa_cons (se_var (i := 2)) sa_nil))) (sa_cons (se_op2 o_add se_int (se_var (i := 2))) sa_nil))))
    (sb_one (ss_ret (se_op2 o_mod (se_op2 o_fdiv (se_callT b_int T.n_int (by decide +kernel) (sa_cons (se_op2 o_add (se_op2 o_mul (se_var (i := 5)) se_int) (se_call (s__law_mixed T) (hr.mono (by decide)) tk (sa_cons (se_var (i := 5)) (sa_cons (se_op2 o_add se_int (se_var (i := 2))) sa_nil)))) sa_nil)) se_int) (se_var (i := 1)))))))))))
theorem s__law_of (T : Txt P w K mg base cl) : FnS P w K mg base cl 3 "_law_of" 2 f__law_of :=
  FnS.mk (m := m__law_of) T.d__law_of sc__law_of fun f cdv A outer s H E hr => by
    have nd := sc__law_of.nd
    have tk : Takes (cxOf (L2.CX P w) P w K mg base N__law_of "_law_of" (defScope st__law_of) f cdv A outer s H E) (fun c d _ H' => E c d H') := takes_of rfl rfl rfl rfl
    have po : PassesOwn (model P w) (A.deeper (envOfC "_law_of" (defScope st__law_of) s.heap.objs.size f cdv)) (envOfC "_law_of" (defScope st__law_of) s.heap.objs.size f cdv) (cxOf (L2.CX P w) P w K mg base N__law_of "_law_of" (defScope st__law_of) f cdv A outer s H E).xe := passes_of rfl
    exact (sb_one (ss_ret (se_ix o_ix (se_var (i := 1)) (se_call (s__law_draw T) (hr.mono (by decide)) tk (sa_cons (se_var (i := 0)) (sa_cons (se_callB b_len T.n_len (by decide +kernel) (sa_cons (se_var (i := 1)) sa_nil)) sa_nil))))))
theorem s__law_cells (T : Txt P w K mg base cl) : FnS P w K mg base cl 1 "_law_cells" 1 f__law_cells :=
  FnS.mk (m := m__law_cells) T.d__law_cells sc__law_cells fun f cdv A outer s H E hr => by
    have nd := sc__law_cells.nd
    have tk : Takes (cxOf (L2.CX P w) P w K mg base N__law_cells "_law_cells" (defScope st__law_cells) f cdv A outer s H E) (fun c d _ H' => E c d H') := takes_of rfl rfl rfl rfl
    have po : PassesOwn (model P w) (A.deeper (envOfC "_law_cells" (defScope st__law_cells) s.heap.objs.size f cdv)) (envOfC "_law_cells" (defScope st__law_cells) s.heap.objs.size f cdv) (cxOf (L2.CX P w) P w K mg base N__law_cells "_law_cells" (defScope st__law_cells) f cdv A outer s H E).xe := passes_of rfl
    exact (sb_one (ss_ret (se_dget (hu_of hr) (se_dict (.cons se_str (se_tup (sa_cons se_int sa_nil)) (.cons se_str (se_tup (sa_cons se_int sa_nil)) (.cons se_str (se_tup (sa_cons se_int (sa_cons se_int sa_nil))) .nil)))) (se_var (i := 0)))))
theorem s__law_true (T : Txt P w K mg base cl) : FnS P w K mg base cl 1 "_law_true" 1 f__law_true :=
  FnS.mk (m := m__law_true) T.d__law_true sc__law_true fun f cdv A outer s H E hr => by
    have nd := sc__law_true.nd
    have tk : Takes (cxOf (L2.CX P w) P w K mg base N__law_true "_law_true" (defScope st__law_true) f cdv A outer s H E) (fun c d _ H' => E c d H') := takes_of rfl rfl rfl rfl
    have po : PassesOwn (model P w) (A.deeper (envOfC "_law_true" (defScope st__law_true) s.heap.objs.size f cdv)) (envOfC "_law_true" (defScope st__law_true) s.heap.objs.size f cdv) (cxOf (L2.CX P w) P w K mg base N__law_true "_law_true" (defScope st__law_true) f cdv A outer s H E).xe := passes_of rfl
    exact (sb_one (ss_ret (se_ifExp (st_cmp (o_eq hr.units) (se_ix o_ix (se_ix o_ix (se_var (i := 0)) se_int) se_int) se_str) (se_ix o_ix (se_ix o_ix (se_var (i := 0)) se_int) se_int) (se_ix o_ix (se_ix o_ix (se_var (i := 0)) se_int) se_int))))
theorem s__law_right (T : Txt P w K mg base cl) : FnS P w K mg base cl 2 "_law_right" 2 f__law_right :=
  FnS.mk (m := m__law_right) T.d__law_right sc__law_right fun f cdv A outer s H E hr => by
    have nd := sc__law_right.nd
    have tk : Takes (cxOf (L2.CX P w) P w K mg base N__law_right "_law_right" (defScope st__law_right) f cdv A outer s H E) (fun c d _ H' => E c d H') := takes_of rfl rfl rfl rfl
    have po : PassesOwn (model P w) (A.deeper (envOfC "_law_right" (defScope st__law_right) s.heap.objs.size f cdv)) (envOfC "_law_right" (defScope st__law_right) s.heap.objs.size f cdv) (cxOf (L2.CX P w) P w K mg base N__law_right "_law_right" (defScope st__law_right) f cdv A outer s H E).xe := passes_of rfl
    exact (sb_cons (ss_par2 (k := 2) (l := 3) rfl nd rfl rfl (by decide) rfl rfl (sa_cons (se_call (s__law_true T) (hr.mono (by decide)) tk (sa_cons (se_ix o_ix (se_var (i := 0)) (se_var (i := 1))) sa_nil)) (sa_cons (se_lst sa_nil) sa_nil)))
    (sb_cons (ss_for po rfl (si_seq (se_call (s__law_cells T) (hr.mono (by decide)) tk (sa_cons (se_ix o_ix (se_ix o_ix (se_var (i := 0)) (se_var (i := 1))) se_int) sa_nil))) (sg_name (k := 4) nd rfl (Or.inl rfl)) (sb_tidy (sb_cons (ss_set (k := 5) nd rfl (Or.inl rfl) (se_op2 o_sub (se_op1 o_neg se_int) (se_var (i := 2))))
    (sb_cons (ss_for po rfl (si_range1 T.n_range (se_var (i := 1))) (sg_name (k := 6) nd rfl (Or.inl rfl)) (sb_tidy (sb_cons (ss_asg (se_ix o_ix (se_var (i := 0)) (se_var (i := 6))) (sg_tup rfl (sgs_cons (sg_name (k := 7) nd rfl (Or.inl rfl)) (sgs_cons (sg_name (k := 8) nd rfl (Or.inl rfl)) (sgs_cons (sg_name (k := 9) nd rfl (Or.inl rfl)) sgs_nil)))))
    (sb_one (ss_if (st_bool (sw_and (st_cmp (o_eq hr.units) (se_var (i := 7)) se_str) (sw_and (st_cmp (o_eq hr.units) (se_call (s__law_true T) (hr.mono (by decide)) tk (sa_cons (se_ix o_ix (se_var (i := 0)) (se_var (i := 6))) sa_nil)) (se_var (i := 2))) (sw_and1 (st_cmp o_in (se_var (i := 4)) (se_call (s__law_cells T) (hr.mono (by decide)) tk (sa_cons (se_var (i := 8)) sa_nil))))))) (sb_one (ss_set (k := 5) nd rfl (Or.inl rfl) (se_var (i := 6)))) sb_nil)))))
    (sb_one (ss_expr (se_append (se_var (i := 3)) (sa_cons (se_var (i := 5)) sa_nil))))))))
    (sb_one (ss_ret (se_callT b_tuple T.n_tuple (by decide +kernel) (sa_cons (se_var (i := 3)) sa_nil))))))
theorem s__law_hangs (T : Txt P w K mg base cl) : FnS P w K mg base cl 1 "_law_hangs" 3 f__law_hangs :=
  FnS.mk (m := m__law_hangs) T.d__law_hangs sc__law_hangs fun f cdv A outer s H E hr => by
    have nd := sc__law_hangs.nd
    have tk : Takes (cxOf (L2.CX P w) P w K mg base N__law_hangs "_law_hangs" (defScope st__law_hangs) f cdv A outer s H E) (fun c d _ H' => E c d H') := takes_of rfl rfl rfl rfl
    have po : PassesOwn (model P w) (A.deeper (envOfC "_law_hangs" (defScope st__law_hangs) s.heap.objs.size f cdv)) (envOfC "_law_hangs" (defScope st__law_hangs) s.heap.objs.size f cdv) (cxOf (L2.CX P w) P w K mg base N__law_hangs "_law_hangs" (defScope st__law_hangs) f cdv A outer s H E).xe := passes_of rfl
    exact (sb_cons (ss_while po (st_cmp (o_eq hr.units) (se_ix o_ix (se_ix o_ix (se_ix o_ix (se_var (i := 0)) (se_var (i := 1))) se_int) se_int) se_str) (sb_tidy (sb_cons (ss_set (k := 1) nd rfl (Or.inl rfl) (se_ix o_ix (se_ix o_ix (se_ix o_ix (se_var (i := 0)) (se_var (i := 1))) se_int) se_int))
    (sb_one (ss_if (st_cmp (o_eq hr.units) (se_var (i := 1)) (se_var (i := 2))) (sb_one (ss_ret se_bl)) sb_nil)))))
    (sb_one (ss_ret se_bl)))
theorem s__law_rule (T : Txt P w K mg base cl) : FnS P w K mg base cl 3 "_law_rule" 1 f__law_rule :=
  FnS.mk (m := m__law_rule) T.d__law_rule sc__law_rule fun f cdv A outer s H E hr => by
    have nd := sc__law_rule.nd
    have tk : Takes (cxOf (L2.CX P w) P w K mg base N__law_rule "_law_rule" (defScope st__law_rule) f cdv A outer s H E) (fun c d _ H' => E c d H') := takes_of rfl rfl rfl rfl
    have po : PassesOwn (model P w) (A.deeper (envOfC "_law_rule" (defScope st__law_rule) s.heap.objs.size f cdv)) (envOfC "_law_rule" (defScope st__law_rule) s.heap.objs.size f cdv) (cxOf (L2.CX P w) P w K mg base N__law_rule "_law_rule" (defScope st__law_rule) f cdv A outer s H E).xe := passes_of rfl
    exact (sb_cons (ss_par2 (k := 1) (l := 2) rfl nd rfl rfl (by decide) rfl rfl (sa_cons (se_ix o_ix (se_lst (sa_cons se_str (sa_cons se_str (sa_cons se_str (sa_cons se_str sa_nil))))) (se_call (s__law_draw T) (hr.mono (by decide)) tk (sa_cons (se_var (i := 0)) (sa_cons se_int sa_nil)))) (sa_cons (se_ix o_ix (se_lst (sa_cons se_str (sa_cons se_str (sa_cons se_str sa_nil)))) (se_call (s__law_draw T) (hr.mono (by decide)) tk (sa_cons (se_var (i := 0)) (sa_cons se_int sa_nil)))) sa_nil)))
    (sb_cons (ss_set (k := 3) nd rfl (Or.inl rfl) (se_ix o_ix (se_lst (sa_cons se_str (sa_cons se_str (sa_cons se_str (sa_cons se_str (sa_cons se_str (sa_cons se_str sa_nil))))))) (se_call (s__law_draw T) (hr.mono (by decide)) tk (sa_cons (se_var (i := 0)) (sa_cons se_int sa_nil)))))
    (sb_cons (ss_set (k := 4) nd rfl (Or.inl rfl) (se_ix o_ix (se_lst (sa_cons se_str (sa_cons se_str (sa_cons se_str sa_nil)))) (se_call (s__law_draw T) (hr.mono (by decide)) tk (sa_cons (se_var (i := 0)) (sa_cons se_int sa_nil)))))
    (sb_cons (ss_set (k := 5) nd rfl (Or.inl rfl) (se_ix o_ix (se_lst (sa_cons se_str (sa_cons se_str (sa_cons se_str (sa_cons se_str (sa_cons se_str sa_nil)))))) (se_call (s__law_draw T) (hr.mono (by decide)) tk (sa_cons (se_var (i := 0)) (sa_cons se_int sa_nil)))))
    (sb_cons (ss_par2 (k := 6) (l := 7) rfl nd rfl rfl (by decide) rfl rfl (sa_cons (se_ix o_ix (se_lst (sa_cons se_str (sa_cons se_str sa_nil))) (se_call (s__law_draw T) (hr.mono (by decide)) tk (sa_cons (se_var (i := 0)) (sa_cons se_int sa_nil)))) (sa_cons (se_ix o_ix (se_lst (sa_cons se_str (sa_cons se_str (sa_cons se_str sa_nil)))) (se_call (s__law_draw T) (hr.mono (by decide)) tk (sa_cons (se_var (i := 0)) (sa_cons se_int sa_nil)))) sa_nil)))
    (sb_one (ss_ret (se_tup (sa_cons (se_var (i := 1)) (sa_cons (se_var (i := 2)) (sa_cons (se_var (i := 3)) (sa_cons (se_var (i := 4)) (sa_cons (se_var (i := 5)) (sa_cons (se_var (i := 6)) (sa_cons (se_var (i := 7)) sa_nil)))))))))))))))
theorem s__law_program (T : Txt P w K mg base cl) : FnS P w K mg base cl 4 "_law_program" 2 f__law_program :=
  FnS.mk (m := m__law_program) T.d__law_program sc__law_program fun f cdv A outer s H E hr => by
    have nd := sc__law_program.nd
    have tk : Takes (cxOf (L2.CX P w) P w K mg base N__law_program "_law_program" (defScope st__law_program) f cdv A outer s H E) (fun c d _ H' => E c d H') := takes_of rfl rfl rfl rfl
    have po : PassesOwn (model P w) (A.deeper (envOfC "_law_program" (defScope st__law_program) s.heap.objs.size f cdv)) (envOfC "_law_program" (defScope st__law_program) s.heap.objs.size f cdv) (cxOf (L2.CX P w) P w K mg base N__law_program "_law_program" (defScope st__law_program) f cdv A outer s H E).xe := passes_of rfl
    exact (sb_cons (ss_set (k := 2) nd rfl (Or.inr rfl) (se_lst sa_nil))
    (sb_cons (ss_for po rfl (si_range1 T.n_range (se_op2 o_add se_int (se_call (s__law_draw T) (hr.mono (by decide)) tk (sa_cons (se_var (i := 0)) (sa_cons (se_var (i := 1)) sa_nil))))) (sg_name (k := 3) nd rfl (Or.inl rfl)) (sb_tidy (sb_cons (ss_set (k := 4) nd rfl (Or.inl rfl) (se_ix o_ix (se_lst (sa_cons se_str (sa_cons se_str sa_nil))) (se_call (s__law_draw T) (hr.mono (by decide)) tk (sa_cons (se_var (i := 0)) (sa_cons se_int sa_nil)))))
    (sb_cons (ss_set (k := 5) nd rfl (Or.inl rfl) (se_ix o_ix (se_lst (sa_cons se_str (sa_cons se_str (sa_cons se_str sa_nil)))) (se_call (s__law_draw T) (hr.mono (by decide)) tk (sa_cons (se_var (i := 0)) (sa_cons se_int sa_nil)))))
    (sb_cons (ss_set (k := 6) nd rfl (Or.inl rfl) (se_lst (sa_cons se_int (sa_cons se_int (sa_cons se_int (sa_cons se_int sa_nil))))))
    (sb_cons (ss_set (k := 7) nd rfl (Or.inl rfl) (se_tup (sa_cons se_str (sa_cons (se_ix o_ix (se_var (i := 6)) (se_ix o_ix (se_lst (sa_cons se_int (sa_cons se_int (sa_cons se_int (sa_cons se_int (sa_cons se_int (sa_cons se_int sa_nil))))))) (se_call (s__law_draw T) (hr.mono (by decide)) tk (sa_cons (se_var (i := 0)) (sa_cons se_int sa_nil))))) sa_nil))))
    (sb_cons (ss_setComp (own := [("_law_k", 9)]) (g := (.nm 9)) (k := 8) rfl nd rfl rfl (sw_true rfl rfl rfl (by decide +kernel)) (si_range1 T.n_range (se_var (i := 3))) (blkOk_by (own := [("_law_k", 9)]) (N := N__law_program) (sc := defScope st__law_program) (by decide +kernel)) (fun _ _ _ _ _ => pg_name (i := 9) nd rfl (Or.inl rfl)) (fun _ _ _ _ _ => (sts_one (st_cmp (o_eq hr.units) (se_ix o_ix (se_ix o_ix (se_var (i := 2)) (se_var (i := 9))) se_int) se_str))) (fun _ _ _ _ _ => (se_var (i := 9))))
    (sb_cons (ss_if (st_bool (sw_and (st_cmp (o_ne hr.units) (se_var (i := 8)) (se_lst sa_nil)) (sw_and1 (st_cmp (o_eq hr.units) (se_call (s__law_draw T) (hr.mono (by decide)) tk (sa_cons (se_var (i := 0)) (sa_cons se_int sa_nil))) se_int)))) (sb_one (ss_set (k := 7) nd rfl (Or.inl rfl) (se_tup (sa_cons se_str (sa_cons (se_call (s__law_of T) (hr.mono (by decide)) tk (sa_cons (se_var (i := 0)) (sa_cons (se_var (i := 8)) sa_nil))) (sa_cons (se_call (s__law_of T) (hr.mono (by decide)) tk (sa_cons (se_var (i := 0)) (sa_cons (se_var (i := 6)) sa_nil))) (sa_cons (se_call (s__law_of T) (hr.mono (by decide)) tk (sa_cons (se_var (i := 0)) (sa_cons (se_var (i := 6)) sa_nil))) sa_nil))))))) sb_nil)
    (sb_one (ss_expr (se_append (se_var (i := 2)) (sa_cons (se_tup (sa_cons (se_var (i := 4)) (sa_cons (se_var (i := 5)) (sa_cons (se_var (i := 7)) sa_nil)))) sa_nil))))))))))))
    (sb_one (ss_ret (se_callT b_tuple T.n_tuple (by decide +kernel) (sa_cons (se_var (i := 2)) sa_nil))))))
theorem s__law_program_right (T : Txt P w K mg base cl) : FnS P w K mg base cl 7 "_law_program_right" 1 f__law_program_right :=
  FnS.mk (m := m__law_program_right) T.d__law_program_right sc__law_program_right fun f cdv A outer s H E hr => by
    have nd := sc__law_program_right.nd
    have tk : Takes (cxOf (L2.CX P w) P w K mg base N__law_program_right "_law_program_right" (defScope st__law_program_right) f cdv A outer s H E) (fun c d _ H' => E c d H') := takes_of rfl rfl rfl rfl
    have po : PassesOwn (model P w) (A.deeper (envOfC "_law_program_right" (defScope st__law_program_right) s.heap.objs.size f cdv)) (envOfC "_law_program_right" (defScope st__law_program_right) s.heap.objs.size f cdv) (cxOf (L2.CX P w) P w K mg base N__law_program_right "_law_program_right" (defScope st__law_program_right) f cdv A outer s H E).xe := passes_of rfl
    exact (sb_cons (ss_if (st_bool (sw_or (st_cmp (o_ne hr.units) (se_call (s_need_program T) (hr.mono (by decide)) tk (sa_cons (se_var (i := 0)) sa_nil)) (se_var (i := 0))) (sw_or1 (st_cmp (o_ne hr.units) (se_call (s_true_words T) (hr.mono (by decide)) tk (sa_cons (se_var (i := 0)) sa_nil)) (se_callT b_tuple T.n_tuple (by decide +kernel) (sa_cons (se_comp (own := [("_law_one", 5)]) (g := (.nm 5)) rfl nd (si_seq (se_var (i := 0))) (blkOk_by (own := [("_law_one", 5)]) (N := N__law_program_right) (sc := defScope st__law_program_right) (by decide +kernel)) (fun _ _ _ _ _ => pg_name (i := 5) nd rfl (Or.inl rfl)) (fun _ _ _ _ _ => sts_nil) (fun _ _ _ _ _ => (se_call (s__law_true T) (hr.mono (by decide)) takes0 (sa_cons (se_var (i := 5)) sa_nil)))) sa_nil)))))) (sb_one (ss_ret se_bl)) sb_nil)
    (sb_cons (ss_set (k := 1) nd rfl (Or.inl rfl) (se_lst sa_nil))
    (sb_cons (ss_for po rfl (si_range1 T.n_range (se_callB b_len T.n_len (by decide +kernel) (sa_cons (se_var (i := 0)) sa_nil))) (sg_name (k := 2) nd rfl (Or.inr rfl)) (sb_tidy (sb_one (ss_expr (se_append (se_var (i := 1)) (sa_cons (se_ifExp (st_cmp (o_eq hr.units) (se_ix o_ix (se_ix o_ix (se_var (i := 0)) (se_var (i := 2))) se_int) se_str) (se_call (s__law_right T) (hr.mono (by decide)) tk (sa_cons (se_var (i := 0)) (sa_cons (se_var (i := 2)) sa_nil))) se_non) sa_nil))))))
    (sb_cons (ss_if (st_bool (sw_or (st_cmp (o_ne hr.units) (se_call (s_right_worths T) (hr.mono (by decide)) tk (sa_cons (se_var (i := 0)) sa_nil)) (se_callT b_tuple T.n_tuple (by decide +kernel) (sa_cons (se_var (i := 1)) sa_nil))) (sw_or1 (st_cmp (o_ne hr.units) (se_call (s_right_worths T) (hr.mono (by decide)) tk (sa_cons (se_var (i := 0)) sa_nil)) (se_callT b_tuple T.n_tuple (by decide +kernel) (sa_cons (se_var (i := 1)) sa_nil)))))) (sb_one (ss_ret se_bl)) sb_nil)
    (sb_cons (ss_for po rfl (si_range1 T.n_range (se_callB b_len T.n_len (by decide +kernel) (sa_cons (se_var (i := 0)) sa_nil))) (sg_name (k := 2) nd rfl (Or.inr rfl)) (sb_tidy (sb_cons (ss_set (k := 3) nd rfl (Or.inl rfl) (se_callT b_tuple T.n_tuple (by decide +kernel) (sa_cons (se_comp (own := [("_law_k", 4)]) (g := (.nm 4)) rfl nd (si_range1 T.n_range (se_callB b_len T.n_len (by decide +kernel) (sa_cons (se_var (i := 0)) sa_nil))) (blkOk_by (own := [("_law_k", 4)]) (N := N__law_program_right) (sc := defScope st__law_program_right) (by decide +kernel)) (fun _ _ _ _ _ => pg_name (i := 4) nd rfl (Or.inl rfl)) (fun _ _ _ _ _ => (sts_one (st_val (se_call (s__law_hangs T) (hr.mono (by decide)) takes0 (sa_cons (se_var (i := 0)) (sa_cons (se_var (i := 4)) (sa_cons (se_var (i := 2)) sa_nil))))))) (fun _ _ _ _ _ => (se_var (i := 4)))) sa_nil)))
    (sb_one (ss_if (st_bool (sw_or (st_cmp (o_ne hr.units) (se_call (s_hangers_of T) (hr.mono (by decide)) tk (sa_cons (se_var (i := 0)) (sa_cons (se_var (i := 2)) sa_nil))) (se_var (i := 3))) (sw_or1 (st_cmp (o_ne hr.units) (se_call (s_hangers_of T) (hr.mono (by decide)) tk (sa_cons (se_var (i := 0)) (sa_cons (se_var (i := 2)) sa_nil))) (se_var (i := 3)))))) (sb_one (ss_ret se_bl)) sb_nil)))))
    (sb_one (ss_ret (se_cmp (o_eq hr.units) (se_call (s_true_words T) (hr.mono (by decide)) tk (sa_cons (se_var (i := 0)) sa_nil)) (se_callT b_tuple T.n_tuple (by decide +kernel) (sa_cons (se_comp (own := [("_law_one", 5)]) (g := (.nm 5)) rfl nd (si_seq (se_var (i := 0))) (blkOk_by (own := [("_law_one", 5)]) (N := N__law_program_right) (sc := defScope st__law_program_right) (by decide +kernel)) (fun _ _ _ _ _ => pg_name (i := 5) nd rfl (Or.inl rfl)) (fun _ _ _ _ _ => sts_nil) (fun _ _ _ _ _ => (se_call (s__law_true T) (hr.mono (by decide)) takes0 (sa_cons (se_var (i := 5)) sa_nil)))) sa_nil))))))))))
theorem s_law (T : Txt P w K mg base cl) : FnS P w K mg base cl 8 "law" 1 f_law :=
  FnS.mk (m := m_law) T.d_law sc_law fun f cdv A outer s H E hr => by
    have nd := sc_law.nd
    have tk : Takes (cxOf (L2.CX P w) P w K mg base N_law "law" (defScope st_law) f cdv A outer s H E) (fun c d _ H' => E c d H') := takes_of rfl rfl rfl rfl
    have po : PassesOwn (model P w) (A.deeper (envOfC "law" (defScope st_law) s.heap.objs.size f cdv)) (envOfC "law" (defScope st_law) s.heap.objs.size f cdv) (cxOf (L2.CX P w) P w K mg base N_law "law" (defScope st_law) f cdv A outer s H E).xe := passes_of rfl
    exact (sb_cons (ss_set (k := 1) nd rfl (Or.inl rfl) (se_call (s__law_begin T) (hr.mono (by decide)) tk (sa_cons (se_var (i := 0)) sa_nil)))
    (sb_cons (ss_for po rfl (si_range1 T.n_range se_int) (sg_name (k := 2) nd rfl (Or.inl rfl)) (sb_tidy (sb_one (ss_if (st_not (st_val (se_call (s__law_program_right T) (hr.mono (by decide)) tk (sa_cons (se_call (s__law_program T) (hr.mono (by decide)) tk (sa_cons (se_var (i := 1)) (sa_cons se_int sa_nil))) sa_nil)))) (sb_one (ss_ret se_bl)) sb_nil))))
    (sb_cons (ss_par2 (k := 3) (l := 4) rfl nd rfl rfl (by decide) rfl rfl (sa_cons (se_call (s__law_draw T) (hr.mono (by decide)) tk (sa_cons (se_var (i := 1)) (sa_cons se_int sa_nil))) (sa_cons (se_call (s__law_draw T) (hr.mono (by decide)) tk (sa_cons (se_var (i := 1)) (sa_cons se_int sa_nil))) sa_nil)))
    (sb_cons (ss_if (st_bool (sw_or (st_cmp (o_ne hr.units) (se_call (s_looks_alike T) (hr.mono (by decide)) tk (sa_cons (se_var (i := 3)) (sa_cons (se_var (i := 4)) sa_nil))) (se_cmp (o_eq hr.units) (se_op2 o_mod (se_callT b_int T.n_int (by decide +kernel) (sa_cons (se_op2 o_sub (se_var (i := 3)) (se_var (i := 4))) sa_nil)) se_int) se_int)) (sw_or1 (st_cmp o_isNot (se_call (s_looks_alike T) (hr.mono (by decide)) tk (sa_cons (se_var (i := 3)) (sa_cons (se_var (i := 3)) sa_nil))) se_bl)))) (sb_one (ss_ret se_bl)) sb_nil)
    (sb_one (ss_ret (se_cmp (o_eq hr.units) (se_lst (sa_cons (se_call (s_looks_alike T) (hr.mono (by decide)) tk (sa_cons se_int (sa_cons se_int sa_nil))) (sa_cons (se_call (s_looks_alike T) (hr.mono (by decide)) tk (sa_cons se_int (sa_cons se_int sa_nil))) (sa_cons (se_call (s_looks_alike T) (hr.mono (by decide)) tk (sa_cons se_int (sa_cons se_int sa_nil))) sa_nil)))) (se_lst (sa_cons se_bl (sa_cons se_bl (sa_cons se_bl sa_nil)))))))))))
end
end K01

set_option Elab.async false
set_option linter.all false
set_option maxRecDepth 100000
set_option maxHeartbeats 4000000
namespace K01
open PySem PySem.Spec PyProof.Rows L2 DS
theorem law_ok {P : Program} {w : World} {K : PySem.W.Frag} {mg : Str → Option Value} {base : Heap} {cl : Nat → Addr} {f : Addr} {fd : FuncData} (T : Txt P w K mg base cl) (F : Fun K "law" "law" st_law f fd) : FnOk P w K mg base (L2.CX P w) 8 f fd ["_law_script"] (spM K cl 1 f_law) :=
  fn_okE (m := m_law) F sc_law fun cdv A outer s H E hr => by
    have nd := sc_law.nd
    have tk : Takes (cxOf (L2.CX P w) P w K mg base N_law "law" (defScope st_law) f cdv A outer s H E) (fun c d _ H' => E c d H') := takes_of rfl rfl rfl rfl
    have po : PassesOwn (model P w) (A.deeper (envOfC "law" (defScope st_law) s.heap.objs.size f cdv)) (envOfC "law" (defScope st_law) s.heap.objs.size f cdv) (cxOf (L2.CX P w) P w K mg base N_law "law" (defScope st_law) f cdv A outer s H E).xe := passes_of rfl
    exact (sb_cons (ss_set (k := 1) nd rfl (Or.inl rfl) (se_call (s__law_begin T) (hr.mono (by decide)) tk (sa_cons (se_var (i := 0)) sa_nil)))
    (sb_cons (ss_for po rfl (si_range1 T.n_range se_int) (sg_name (k := 2) nd rfl (Or.inl rfl)) (sb_tidy (sb_one (ss_if (st_not (st_val (se_call (s__law_program_right T) (hr.mono (by decide)) tk (sa_cons (se_call (s__law_program T) (hr.mono (by decide)) tk (sa_cons (se_var (i := 1)) (sa_cons se_int sa_nil))) sa_nil)))) (sb_one (ss_ret se_bl)) sb_nil))))
    (sb_cons (ss_par2 (k := 3) (l := 4) rfl nd rfl rfl (by decide) rfl rfl (sa_cons (se_call (s__law_draw T) (hr.mono (by decide)) tk (sa_cons (se_var (i := 1)) (sa_cons se_int sa_nil))) (sa_cons (se_call (s__law_draw T) (hr.mono (by decide)) tk (sa_cons (se_var (i := 1)) (sa_cons se_int sa_nil))) sa_nil)))
    (sb_cons (ss_if (st_bool (sw_or (st_cmp (o_ne hr.units) (se_call (s_looks_alike T) (hr.mono (by decide)) tk (sa_cons (se_var (i := 3)) (sa_cons (se_var (i := 4)) sa_nil))) (se_cmp (o_eq hr.units) (se_op2 o_mod (se_callT b_int T.n_int (by decide +kernel) (sa_cons (se_op2 o_sub (se_var (i := 3)) (se_var (i := 4))) sa_nil)) se_int) se_int)) (sw_or1 (st_cmp o_isNot (se_call (s_looks_alike T) (hr.mono (by decide)) tk (sa_cons (se_var (i := 3)) (sa_cons (se_var (i := 3)) sa_nil))) se_bl)))) (sb_one (ss_ret se_bl)) sb_nil)
    (sb_one (ss_ret (se_cmp (o_eq hr.units) (se_lst (sa_cons (se_call (s_looks_alike T) (hr.mono (by decide)) tk (sa_cons se_int (sa_cons se_int sa_nil))) (sa_cons (se_call (s_looks_alike T) (hr.mono (by decide)) tk (sa_cons se_int (sa_cons se_int sa_nil))) (sa_cons (se_call (s_looks_alike T) (hr.mono (by decide)) tk (sa_cons se_int (sa_cons se_int sa_nil))) sa_nil)))) (se_lst (sa_cons se_bl (sa_cons se_bl (sa_cons se_bl sa_nil)))))))))))
def hloose0 : List Str := ["EarlyError", "BadProgram", "BadNumber", "READ", "WRITE", "LOW", "HIGH", "BOTH", "TOLD", "HUNG", "CELLS", "MOST_WORD", "MOST_ACCESSES", "SIGNS", "is_integer", "is_between", "is_word", "is_one_of", "is_place", "need_program", "cells_of", "true_in", "first_worth", "youngest", "right_in", "hanging_on", "true_words", "right_worths", "need_age", "hangers_of"]
def hloose1 : List Str := ["have_one_sign", "looks_alike", "_law_mixed", "_law_begin", "_law_draw", "_law_of", "_law_cells", "_law_true", "_law_right", "_law_hangs", "_law_rule", "_law_program", "_law_program_right"]
def hloose : List Str := hloose0 ++ hloose1
def hfn : List He.DefD := [defD "is_integer" st_is_integer, defD "is_between" st_is_between, defD "is_word" st_is_word, defD "is_one_of" st_is_one_of, defD "is_place" st_is_place, defD "need_program" st_need_program, defD "cells_of" st_cells_of, defD "true_in" st_true_in, defD "first_worth" st_first_worth, defD "youngest" st_youngest, defD "right_in" st_right_in, defD "hanging_on" st_hanging_on, defD "true_words" st_true_words, defD "right_worths" st_right_worths, defD "need_age" st_need_age, defD "hangers_of" st_hangers_of, defD "have_one_sign" st_have_one_sign, defD "looks_alike" st_looks_alike, defD "_law_mixed" st__law_mixed, defD "_law_begin" st__law_begin, defD "_law_draw" st__law_draw, defD "_law_of" st__law_of, defD "_law_cells" st__law_cells, defD "_law_true" st__law_true, defD "_law_right" st__law_right, defD "_law_hangs" st__law_hangs, defD "_law_rule" st__law_rule, defD "_law_program" st__law_program, defD "_law_program_right" st__law_program_right, defD "law" st_law]
def hfa : List He.Fa := [.glo "is_integer", .glo "is_between", .glo "is_word", .glo "is_one_of", .glo "is_place", .glo "need_program", .glo "cells_of", .glo "true_in", .glo "first_worth", .glo "youngest", .glo "right_in", .glo "hanging_on", .glo "true_words", .glo "right_worths", .glo "need_age", .glo "hangers_of", .glo "have_one_sign", .glo "looks_alike", .glo "_law_mixed", .glo "_law_begin", .glo "_law_draw", .glo "_law_of", .glo "_law_cells", .glo "_law_true", .glo "_law_right", .glo "_law_hangs", .glo "_law_rule", .glo "_law_program", .glo "_law_program_right", .glo "law", .glo "CELLS", .free "bool", .free "enumerate", .free "int", .free "isinstance", .free "len", .free "list", .free "max", .free "range", .free "str", .free "tuple"]
def hts : List He.Tab := [(fun K => He.ga K "CELLS", k_CELLS.map Prod.fst)]
def hex (K : PySem.W.Frag) : Bool := [gcB K "READ" c_READ, gcB K "WRITE" c_WRITE, gcB K "LOW" c_LOW, gcB K "HIGH" c_HIGH, gcB K "BOTH" c_BOTH, gcB K "TOLD" c_TOLD, gcB K "HUNG" c_HUNG, gcB K "MOST_WORD" c_MOST_WORD, gcB K "MOST_ACCESSES" c_MOST_ACCESSES, gcB K "SIGNS" c_SIGNS, ktB K (He.ga K "CELLS") k_CELLS].all id
abbrev HR_ : PySem.W.OpenRow := PySem.W.OpenLaw.row PySem.Challenge.rw_earlyreads_k01_whole_programs
abbrev hk : PySem.W.Hook := He.hookX 5 hfa hfn hts [] hex
def hob (s : PySem.W.SharedT) : He.AlX := He.obsX 5 hfa hfn hts [] hex (HandSHeadRun.getT s)
theorem hob_eq (s : PySem.W.SharedT) : hob s = hk.obs s.abs := He.obsX_eq (HandSHeadRun.getT_eq s)
theorem hrunF (w : World) : HandSHeadRun.RunEq HR_ (PySem.W.view HR_.prog [46]) hk hob 6000 hloose (w.withFollow "special-get-raises" false) := by
  intro os
  kernel_rfl
theorem hrunT (w : World) : HandSHeadRun.RunEq HR_ (PySem.W.view HR_.prog [46]) hk hob 6000 hloose (w.withFollow "special-get-raises" true) := by
  intro os
  kernel_rfl
theorem hrun (w : World) : HandSHeadRun.RunEq HR_ (PySem.W.view HR_.prog [46]) hk hob 6000 hloose w := PySem.W.byRow2 "special-get-raises" hrunF hrunT w
theorem txt_of {P : Program} {w : World} {K : PySem.W.Frag} {h h2 base : Heap} {mg : Str → Option Value} (X : K.In h) (G : h.Ns mainGlobals mg) (c : He.SaysX hfa hfn hts [] hex w h2 K) : Txt P w K mg base (fun _ => 0) := by
  have cd := c.t.d
  have cm : ∀ b ∈ [gcB K "READ" c_READ, gcB K "WRITE" c_WRITE, gcB K "LOW" c_LOW, gcB K "HIGH" c_HIGH, gcB K "BOTH" c_BOTH, gcB K "TOLD" c_TOLD, gcB K "HUNG" c_HUNG, gcB K "MOST_WORD" c_MOST_WORD, gcB K "MOST_ACCESSES" c_MOST_ACCESSES, gcB K "SIGNS" c_SIGNS, ktB K (He.ga K "CELLS") k_CELLS], b = true := fun b hb => List.all_eq_true.mp c.more b hb
  exact {
    d_is_integer := defAt_of X G cd 0 0 rfl rfl fun _ _ _ _ _ _ us hl => match us, hl with | [_], _ => rfl
    d_is_between := defAt_of X G cd 1 1 rfl rfl fun _ _ _ _ _ _ us hl => match us, hl with | [_, _, _], _ => rfl
    d_is_word := defAt_of X G cd 2 2 rfl rfl fun _ _ _ _ _ _ us hl => match us, hl with | [_], _ => rfl
    d_is_one_of := defAt_of X G cd 3 3 rfl rfl fun _ _ _ _ _ _ us hl => match us, hl with | [_, _], _ => rfl
    d_is_place := defAt_of X G cd 4 4 rfl rfl fun _ _ _ _ _ _ us hl => match us, hl with | [_, _], _ => rfl
    d_need_program := defAt_of X G cd 5 5 rfl rfl fun _ _ _ _ _ _ us hl => match us, hl with | [_], _ => rfl
    d_cells_of := defAt_of X G cd 6 6 rfl rfl fun _ _ _ _ _ _ us hl => match us, hl with | [_], _ => rfl
    d_true_in := defAt_of X G cd 7 7 rfl rfl fun _ _ _ _ _ _ us hl => match us, hl with | [_], _ => rfl
    d_first_worth := defAt_of X G cd 8 8 rfl rfl fun _ _ _ _ _ _ us hl => match us, hl with | [_], _ => rfl
    d_youngest := defAt_of X G cd 9 9 rfl rfl fun _ _ _ _ _ _ us hl => match us, hl with | [_, _], _ => rfl
    d_right_in := defAt_of X G cd 10 10 rfl rfl fun _ _ _ _ _ _ us hl => match us, hl with | [_], _ => rfl
    d_hanging_on := defAt_of X G cd 11 11 rfl rfl fun _ _ _ _ _ _ us hl => match us, hl with | [_, _], _ => rfl
    d_true_words := defAt_of X G cd 12 12 rfl rfl fun _ _ _ _ _ _ us hl => match us, hl with | [_], _ => rfl
    d_right_worths := defAt_of X G cd 13 13 rfl rfl fun _ _ _ _ _ _ us hl => match us, hl with | [_], _ => rfl
    d_need_age := defAt_of X G cd 14 14 rfl rfl fun _ _ _ _ _ _ us hl => match us, hl with | [_, _], _ => rfl
    d_hangers_of := defAt_of X G cd 15 15 rfl rfl fun _ _ _ _ _ _ us hl => match us, hl with | [_, _], _ => rfl
    d_have_one_sign := defAt_of X G cd 16 16 rfl rfl fun _ _ _ _ _ _ us hl => match us, hl with | [_, _], _ => rfl
    d_looks_alike := defAt_of X G cd 17 17 rfl rfl fun _ _ _ _ _ _ us hl => match us, hl with | [_, _], _ => rfl
    d__law_mixed := defAt_of X G cd 18 18 rfl rfl fun _ _ _ _ _ _ us hl => match us, hl with | [_, _], _ => rfl
    d__law_begin := defAt_of X G cd 19 19 rfl rfl fun _ _ _ _ _ _ us hl => match us, hl with | [_], _ => rfl
    d__law_draw := defAt_of X G cd 20 20 rfl rfl fun _ _ _ _ _ _ us hl => match us, hl with | [_, _], _ => rfl
    d__law_of := defAt_of X G cd 21 21 rfl rfl fun _ _ _ _ _ _ us hl => match us, hl with | [_, _], _ => rfl
    d__law_cells := defAt_of X G cd 22 22 rfl rfl fun _ _ _ _ _ _ us hl => match us, hl with | [_], _ => rfl
    d__law_true := defAt_of X G cd 23 23 rfl rfl fun _ _ _ _ _ _ us hl => match us, hl with | [_], _ => rfl
    d__law_right := defAt_of X G cd 24 24 rfl rfl fun _ _ _ _ _ _ us hl => match us, hl with | [_, _], _ => rfl
    d__law_hangs := defAt_of X G cd 25 25 rfl rfl fun _ _ _ _ _ _ us hl => match us, hl with | [_, _, _], _ => rfl
    d__law_rule := defAt_of X G cd 26 26 rfl rfl fun _ _ _ _ _ _ us hl => match us, hl with | [_], _ => rfl
    d__law_program := defAt_of X G cd 27 27 rfl rfl fun _ _ _ _ _ _ us hl => match us, hl with | [_, _], _ => rfl
    d__law_program_right := defAt_of X G cd 28 28 rfl rfl fun _ _ _ _ _ _ us hl => match us, hl with | [_], _ => rfl
    d_law := defAt_of X G cd 29 29 rfl rfl fun _ _ _ _ _ _ us hl => match us, hl with | [_], _ => rfl
    n_bool := He.free_ok X G (cd.fact 31 (f := .free "bool") rfl)
    n_enumerate := He.free_ok X G (cd.fact 32 (f := .free "enumerate") rfl)
    n_int := He.free_ok X G (cd.fact 33 (f := .free "int") rfl)
    n_isinstance := He.free_ok X G (cd.fact 34 (f := .free "isinstance") rfl)
    n_len := He.free_ok X G (cd.fact 35 (f := .free "len") rfl)
    n_list := He.free_ok X G (cd.fact 36 (f := .free "list") rfl)
    n_max := He.free_ok X G (cd.fact 37 (f := .free "max") rfl)
    n_range := He.free_ok X G (cd.fact 38 (f := .free "range") rfl)
    n_str := He.free_ok X G (cd.fact 39 (f := .free "str") rfl)
    n_tuple := He.free_ok X G (cd.fact 40 (f := .free "tuple") rfl)
    c_READ := gcB_ok X G (cm _ (List.mem_of_getElem? (i := 0) rfl))
    c_WRITE := gcB_ok X G (cm _ (List.mem_of_getElem? (i := 1) rfl))
    c_LOW := gcB_ok X G (cm _ (List.mem_of_getElem? (i := 2) rfl))
    c_HIGH := gcB_ok X G (cm _ (List.mem_of_getElem? (i := 3) rfl))
    c_BOTH := gcB_ok X G (cm _ (List.mem_of_getElem? (i := 4) rfl))
    c_TOLD := gcB_ok X G (cm _ (List.mem_of_getElem? (i := 5) rfl))
    c_HUNG := gcB_ok X G (cm _ (List.mem_of_getElem? (i := 6) rfl))
    c_MOST_WORD := gcB_ok X G (cm _ (List.mem_of_getElem? (i := 7) rfl))
    c_MOST_ACCESSES := gcB_ok X G (cm _ (List.mem_of_getElem? (i := 8) rfl))
    c_SIGNS := gcB_ok X G (cm _ (List.mem_of_getElem? (i := 9) rfl))
    k_CELLS := ktB_ok X G (cd.fact 30 (f := .glo "CELLS") rfl) (c.t.tab 0) (cm _ (List.mem_of_getElem? (i := 10) rfl))
  }
theorem facts {P : Program} {w : World} {K : PySem.W.Frag} {h h2 : Heap} {mg : Str → Option Value} {f : Addr} (X : K.In h) (G : h.Ns mainGlobals mg) (hfa_ : mg ("law" : Str) = some (.ref f)) (c : He.SaysX hfa hfn hts [] hex w h2 K) :
    ∃ fd : FuncData, (∀ (s : Shared) (v : Value), BindsTo s fd ⟨[v], []⟩ [("_law_script", v)]) ∧ ∀ base : Heap, K.In base → base.Ns mainGlobals mg → FnOk P w K mg base (L2.CX P w) 8 f fd ["_law_script"] (spM K (fun _ => 0) 1 f_law) := by
  have cd := c.t.d
  obtain ⟨fd, F⟩ := cd.def_ 29 (d := defD "law" st_law) rfl
  have e := hfa_.symm.trans (He.glo_ok X G (cd.fact 29 (f := .glo "law") rfl))
  cases e
  have b := FunD.bindsA (ps := ["_law_script"]) F fun _ _ _ _ _ _ us hl => match us, hl with | [_], _ => rfl
  exact ⟨fd, fun s v => b s [v] rfl, fun base _ _ => law_ok (txt_of X G c) (fun_of F)⟩
end K01
open PySem PySem.W PySem.Calls PyProof.Rows
theorem PySem.Challenge.cw_earlyreads_k01_whole_programs_holds : PySem.Challenge.rw_earlyreads_k01_whole_programs.Holds := by
  w_on; o_law
  refine HandSHeadRun.head_any (r := OpenLaw.row PySem.Challenge.rw_earlyreads_k01_whole_programs) (q := view (OpenLaw.row PySem.Challenge.rw_earlyreads_k01_whole_programs).prog [46]) (H := K01.hk) (ob := K01.hob) (M := 6000) (loose := K01.hloose) (d := HandSHeadRun.topDef (OpenLaw.row PySem.Challenge.rw_earlyreads_k01_whole_programs).prog 46) (kwd := []) K01.hob_eq
    (by kernel_rfl) (fun s => by kernel_rfl) K01.hrun (by kernel_rfl) (by kernel_rfl) (by kernel_rfl) (by rfl) (by first | assumption | decide +kernel) (by decide +kernel) ⟨rfl, rfl, rfl, rfl, rfl, by decide +kernel⟩ ?hw ?hc
  case hw => w_witness2
  case hc =>
    refine DS.walk_ofW (l := PySem.Challenge.rw_earlyreads_k01_whole_programs) (n := 63) (k := 8) (x := "_law_script") (CX := fun w => L2.CX (PySem.Challenge.rw_earlyreads_k01_whole_programs).prog w) rfl (by decide) (by kernel_rfl) ⟨rfl, by decide, by decide⟩ ?F (fun w H s e s' h => DS.cx_end h)
    intro w mg fa h Y G hmg0
    obtain ⟨K, KX, c⟩ := Y
    have hmg : mg ("law" : PySem.Str) = some (.ref fa) := by
      have e : (HandSHeadRun.topDef (OpenLaw.row PySem.Challenge.rw_earlyreads_k01_whole_programs).prog 46).name = ("law" : PySem.Str) := by kernel_rfl
      rw [← e]
      exact hmg0
    obtain ⟨fd, hb, hF⟩ := K01.facts (P := (PySem.Challenge.rw_earlyreads_k01_whole_programs).prog) (w := w) KX G hmg c
    exact ⟨K, fd, DS.spM K (fun _ => 0) 1 K01.f_law, KX, hb, fun H a ns hl hO hS => DS.sp_end hO hS (K01.law_true ns hl), hF⟩
