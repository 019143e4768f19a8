import PyProof.Rows.All
import Wide.All
import OpenK.AllK
import Wide.FinOn
import HandS.ForMost
import HandS.ForExc
import HandS.CallSlots
import HandS.Lambda
import KE.KeyNested
import PyProof.DictRoadsH
import HandS.IsInst
import HandS.Wide
import HandS.SortKw
import HandS.SortInts
import HandS.Conv
import HandS.Rev
import HandS.SetFor
import HandS.Remove
import HandS.ExcIs
import KE.KUnpack
import HandS.RevTup
import KE.KDictList
import HandS.Dict
import HandS.Defaults
import HandS.More
import HandS.WordsDict
import HandS.Small
import HandS.Deep
import HandS.Iter
import HandS.TupLen
import PyProof.ZipIter
import KE.KDictKeyed
import KE.DatumOrd
import HandS.HotCalls
import HandS.TryMany
import HandS.Text
import HandS.FStr
import KE.KxIndex
import HandS.Comp
import PyProof.CompUse
import PySem.Challenge.RW_evenmix_k63_texts_refused
set_option Elab.async false
set_option linter.all false
set_option maxRecDepth 100000
set_option maxHeartbeats 4000000
/-! Fx: a functional reading of Python bodies over an abstract store, and its soundness over the hand layer. -/
namespace Fx
open PySem PySem.Spec L2
open PyProof.Rows hiding St

/-- what stands at a name of the abstract store -/
inductive Ob where
  | lst (xs : List V)
  | tup (xs : List V)
  | frl (xs : List V)
  | dK (kvs : List (Key × V))
  | dT (kvs : List (List Key × V))
  /-- a dict by tuples that is walked -/
  | fD (kvs : List (List Key × V))
  /-- the table of code objects of the def x, the lambda's name q -/
  | tab (x q : Str)
  /-- a dict by pairs of a whole number and a tuple of whole numbers -/
  | dN (kvs : List ((Int × List Int) × V))
  /-- an instance of the own class c, its attributes by name -/
  | ins (c : String) (fs : List (String × V))
  deriving DecidableEq
abbrev Sto := List Ob
inductive R (α : Type) where
  | ok (a : α) (S : Sto)
  | exc (c : String) (S : Sto)
  | bad
def R.bind {α β : Type} (r : R α) (f : α → Sto → R β) : R β := match r with
  | .ok a S => f a S
  | .exc c S => .exc c S
  | .bad => .bad
@[simp] theorem R.bind_ok {α β : Type} (a : α) (S : Sto) (f : α → Sto → R β) : (R.ok a S).bind f = f a S := rfl
@[simp] theorem R.bind_exc {α β : Type} (c : String) (S : Sto) (f : α → Sto → R β) : (R.exc c S : R α).bind f = .exc c S := rfl
@[simp] theorem R.bind_bad {α β : Type} (f : α → Sto → R β) : (R.bad : R α).bind f = .bad := rfl
/-- an exception is not let out -/
def R.nox {α : Type} (r : R α) : R α := match r with
  | .exc _ _ => .bad
  | r => r
@[simp] theorem R.nox_ok {α : Type} (a : α) (S : Sto) : (R.ok a S).nox = .ok a S := rfl

/-! ### relations -/
def VR (η : List Addr) (v u : V) : Prop := match v with
  | .ref n => ∃ a, η[n]? = some a ∧ u = .ref a
  | v => u = v
abbrev VsR (η : List Addr) : List V → List V → Prop := Paired (VR η)
def OR (η : List Addr) : Option V → Option V → Prop
  | none, _ => True
  | some v, some u => VR η v u
  | some _, none => False
abbrev SR (η : List Addr) : St → St → Prop := Paired (OR η)
theorem pre_get {η η' : List Addr} (h : η <+: η') {n : Nat} {a : Addr} (e : η[n]? = some a) : η'[n]? = some a := by
  obtain ⟨t, rfl⟩ := h
  rw [List.getElem?_append_left (List.getElem?_eq_some_iff.mp e).1]; exact e
theorem VR.mono {η η' : List Addr} (h : η <+: η') {v u : V} (r : VR η v u) : VR η' v u := by
  cases v with
  | ref n => obtain ⟨a, e, q⟩ := r; exact ⟨a, pre_get h e, q⟩
  | _ => exact r
theorem VsR.mono {η η' : List Addr} (h : η <+: η') {v u : List V} (r : VsR η v u) : VsR η' v u := Paired.mono (fun _ _ => VR.mono h) r
theorem OR.mono {η η' : List Addr} (h : η <+: η') : ∀ {v u : Option V}, OR η v u → OR η' v u
  | none, _, _ => trivial
  | some _, some _, r => VR.mono h r
  | some _, none, r => r
theorem SR.mono {η η' : List Addr} (h : η <+: η') {v u : St} (r : SR η v u) : SR η' v u := Paired.mono (fun _ _ => OR.mono h) r
section paired
variable {α β : Type} {F : α → β → Prop}
theorem pget : ∀ {xs : List α} {us : List β} {i : Nat} {x : α}, Paired F xs us → xs[i]? = some x → ∃ u, us[i]? = some u ∧ F x u
  | _, _, _, _, .nil, e => by simp at e
  | _, _, 0, _, .cons r _, e => by simp at e; subst e; exact ⟨_, rfl, r⟩
  | _, _, i + 1, x, .cons _ t, e => by
    obtain ⟨u, h1, h2⟩ := pget (i := i) (x := x) t (by simpa using e)
    exact ⟨u, by simpa using h1, h2⟩
theorem pget' : ∀ {xs : List α} {us : List β} {i : Nat} {u : β}, Paired F xs us → us[i]? = some u → ∃ x, xs[i]? = some x ∧ F x u
  | _, _, _, _, .nil, e => by simp at e
  | _, _, 0, _, .cons r _, e => by simp at e; subst e; exact ⟨_, rfl, r⟩
  | _, _, i + 1, x, .cons _ t, e => by
    obtain ⟨u, h1, h2⟩ := pget' (i := i) (u := x) t (by simpa using e)
    exact ⟨u, by simpa using h1, h2⟩
theorem pset {x : α} {u : β} (r : F x u) : ∀ {xs : List α} {us : List β} (i : Nat), Paired F xs us → Paired F (xs.set i x) (us.set i u)
  | _, _, _, .nil => .nil
  | _, _, 0, .cons _ t => .cons r t
  | _, _, i + 1, .cons q t => .cons q (pset r i t)
theorem papp : ∀ {xs ys : List α} {us ws : List β}, Paired F xs us → Paired F ys ws → Paired F (xs ++ ys) (us ++ ws)
  | _, _, _, _, .nil, s => s
  | _, _, _, _, .cons r t, s => .cons r (papp t s)
theorem ptake : ∀ {xs : List α} {us : List β} (n : Nat), Paired F xs us → Paired F (xs.take n) (us.take n)
  | _, _, 0, _ => .nil
  | _, _, _ + 1, .nil => .nil
  | _, _, n + 1, .cons r t => .cons r (ptake n t)
theorem pdrop : ∀ {xs : List α} {us : List β} (n : Nat), Paired F xs us → Paired F (xs.drop n) (us.drop n)
  | _, _, 0, r => r
  | _, _, _ + 1, .nil => .nil
  | _, _, n + 1, .cons _ t => pdrop n t
theorem perase : ∀ {xs : List α} {us : List β} (n : Nat), Paired F xs us → Paired F (xs.eraseIdx n) (us.eraseIdx n)
  | _, _, _, .nil => .nil
  | _, _, 0, .cons _ t => t
  | _, _, n + 1, .cons r t => .cons r (perase n t)
theorem prev {xs : List α} {us : List β} (h : Paired F xs us) : Paired F xs.reverse us.reverse := by
  induction h with
  | nil => exact .nil
  | cons r _ ih => rw [List.reverse_cons, List.reverse_cons]; exact papp ih (.cons r .nil)
end paired

/-- a key of two floors -/
def nkOf (k : Int × List Int) : NestedKey := .tup [.num k.1, .tup (k.2.map .num)]
abbrev NkE := (Int × List Int) × Addr × V
/-- the dict at a, by keys of two floors: the keys' own tuples stand where the entries say -/
def DNo (a : Addr) (xs : List NkE) : HO := .ext fun h => xs.length ≤ sizeLine ∧ (a == sysModules) = false ∧ ∃ ys : List (NestedKey × Addr × Value),
  Paired (fun (p : NkE) (q : NestedKey × Addr × Value) => nkOf p.1 = q.1 ∧ p.2.1 = q.2.1 ∧ RelV p.2.2 q.2.2) xs ys ∧
  ∃ o es ep, h.get? a = some o ∧ o.ExactDict ∧ o.data = .dict es ep ∧ (∀ (P : Program) (w : World), es.toList = ys.map (entryOfKey (nestedKind P w))) ∧ (ys.map (·.1)).Nodup
def NKh (H : Hp) (k : Int × List Int) (b : Addr) : Prop := ∃ c, H b = some (.tup [.int k.1, .ref c]) ∧ H c = some (.tup (k.2.map V.int))
/-- what is never changed -/
def Imm (o : HO) : Prop := (∃ c q, o = LamX.CodeO c q) ∨ (∃ xs, o = .tup xs) ∨ ∃ b, o = .own b
theorem codeO_ne_dn {c a : Addr} {q : Str} {xs : List NkE} : LamX.CodeO c q ≠ DNo a xs := fun e => by
  unfold LamX.CodeO DNo at e
  injection e with e
  have e0 := congrFun e ⟨Array.replicate (c + 1) { cls := .none, data := .fields #[.none, .str q 0] }, {}⟩
  have g : ∀ (i : Addr) (o : Obj), Heap.get? ⟨Array.replicate (c + 1) { cls := .none, data := .fields #[.none, .str q 0] }, {}⟩ i = some o → o = { cls := .none, data := .fields #[.none, .str q 0] } := fun i o h => by
    unfold Heap.get? at h
    rw [Array.getElem?_replicate] at h
    by_cases hi : i < c + 1
    · rw [if_pos hi] at h; cases h; rfl
    · rw [if_neg hi] at h; cases h
  have t0 := e0.mp ⟨{ cls := .none, data := .fields #[.none, .str q 0] }, _, 0, by
    unfold Heap.get?
    rw [Array.getElem?_replicate, if_pos (Nat.lt_succ_self c)], rfl, rfl⟩
  obtain ⟨_, _, ys, _, o, es, ep, h1, _, h2, _⟩ := t0
  rw [g _ _ h1] at h2
  cases h2
/-- what an object of the store stands for -/
def ObR (K : PySem.W.Frag) (η : List Addr) (H : Hp) (o : Ob) (a : Addr) : Prop := match o with
  | .lst xs => xs.length ≤ sizeLine ∧ ∃ us, H a = some (.lst us) ∧ VsR η xs us
  | .tup xs => xs.length ≤ sizeLine ∧ ∃ us, H a = some (.tup us) ∧ VsR η xs us
  | .frl xs => xs.length ≤ sizeLine ∧ ∃ us, ((∃ o, H a = some (.frz o (.lst us))) ∨ SqL K (fun _ => none) a us) ∧ VsR η xs us
  | .dK kvs => kvs.length ≤ sizeLine ∧ ∃ us, H a = some (.dK us) ∧ Paired (fun (p q : Key × V) => p.1 = q.1 ∧ VR η p.2 q.2) kvs us
  | .dT kvs => kvs.length ≤ sizeLine ∧ ∃ us, H a = some (.dT us) ∧ Paired (fun (p q : List Key × V) => p.1 = q.1 ∧ VR η p.2 q.2) kvs us
  | .fD kvs => kvs.length ≤ sizeLine ∧ ∃ us, (∃ o, H a = some (.frz o (.dT us))) ∧ Paired (fun (p q : List Key × V) => p.1 = q.1 ∧ VR η p.2 q.2) kvs us
  | .tab x q => (∃ c, PySem.W.tabIn K x = some (c, a)) ∧ LamX.TabS H a q
  | .dN kvs => kvs.length ≤ sizeLine ∧ ∃ xs : List NkE, H a = some (DNo a xs) ∧ Paired (fun (p : (Int × List Int) × V) (q : NkE) => p.1 = q.1 ∧ VR η p.2 q.2.2) kvs xs ∧ ∀ x ∈ xs, NKh H x.1 x.2.1
  | .ins c fs => ∃ (C dx : Addr) (us : List (Str × V)), PySem.W.nsIn K mainGlobals (Str.ofString c) = some (some (.ref C)) ∧ H a = some (.ins C dx us) ∧ H dx = some (.own a) ∧ Paired (fun (p : String × V) (q : Str × V) => q.1 = Str.ofString p.1 ∧ VR η p.2 q.2) fs us
def isFrl : Ob → Bool
  | .frl _ => true
  | _ => false
def isTup : Ob → Bool
  | .tup _ => true
  | _ => false
/-- name 0 is the script's, and it alone is frozen -/
structure Rel (K : PySem.W.Frag) (η : List Addr) (S : Sto) (H : Hp) : Prop where
  len : η.length = S.length
  ne : 0 < S.length
  ob : ∀ (n : Nat) (a : Addr) (o : Ob), η[n]? = some a → S[n]? = some o → ObR K η H o a
  fz : ∀ (n : Nat) (o : Ob), S[n]? = some o → (isFrl o = true ↔ n = 0)
  nd : ∀ (m n : Nat) (a : Addr), 0 < m → 0 < n → η[m]? = some a → η[n]? = some a → m = n ∨ ∃ xs, H a = some (.tup xs)
def nT : HO → Bool
  | .tup _ => false
  | .tbl _ => false
  | _ => true
def isFD : Ob → Bool
  | .fD _ => true
  | _ => false
def Ext (η : List Addr) (H : Hp) (η' : List Addr) (H' : Hp) : Prop := η <+: η' ∧ (∀ b o, H b = some o → b ∉ η.drop 1 → nT o = true → H' b = some o ∧ b ∉ η'.drop 1) ∧ ∀ b o u, H b = some (.frz o u) → H' b = some (.frz o u)
theorem Ext.refl (η : List Addr) (H : Hp) : Ext η H η H := ⟨List.prefix_refl _, fun _ _ h n _ => ⟨h, n⟩, fun _ _ _ h => h⟩
theorem Ext.trans {η η1 η2 : List Addr} {H H1 H2 : Hp} (a : Ext η H η1 H1) (b : Ext η1 H1 η2 H2) : Ext η H η2 H2 :=
  ⟨a.1.trans b.1, fun c o h n t => let ⟨h1, n1⟩ := a.2.1 c o h n t; b.2.1 c o h1 n1 t, fun c o u h => b.2.2 c o u (a.2.2 c o u h)⟩
theorem ObR.mono {K : PySem.W.Frag} {η η' : List Addr} {H : Hp} {o : Ob} {a : Addr} (h : η <+: η') (r : ObR K η H o a) : ObR K η' H o a := by
  cases o with
  | lst xs => obtain ⟨z, us, e, p⟩ := r; exact ⟨z, us, e, p.mono h⟩
  | tup xs => obtain ⟨z, us, e, p⟩ := r; exact ⟨z, us, e, p.mono h⟩
  | frl xs => obtain ⟨z, us, e, p⟩ := r; exact ⟨z, us, e, p.mono h⟩
  | dK xs => obtain ⟨z, us, e, p⟩ := r; exact ⟨z, us, e, Paired.mono (fun _ _ q => ⟨q.1, q.2.mono h⟩) p⟩
  | dT xs => obtain ⟨z, us, e, p⟩ := r; exact ⟨z, us, e, Paired.mono (fun _ _ q => ⟨q.1, q.2.mono h⟩) p⟩
  | fD xs => obtain ⟨z, us, e, p⟩ := r; exact ⟨z, us, e, Paired.mono (fun _ _ q => ⟨q.1, q.2.mono h⟩) p⟩
  | tab x q => exact r
  | dN xs => obtain ⟨z, us, e, p, k⟩ := r; exact ⟨z, us, e, Paired.mono (fun _ _ q => ⟨q.1, q.2.mono h⟩) p, k⟩
  | ins c xs => obtain ⟨C, dx, us, n, e, d, p⟩ := r; exact ⟨C, dx, us, n, e, d, Paired.mono (fun _ _ q => ⟨q.1, q.2.mono h⟩) p⟩
theorem TabS.at {H H' : Hp} {a : Addr} {q : Str} (h : H' a = H a) (hx : ∀ c q, H c = some (LamX.CodeO c q) → H' c = H c) (r : LamX.TabS H a q) : LamX.TabS H' a q := by
  obtain ⟨ps, h1, h2, h3⟩ := r
  refine ⟨ps, h.trans h1, h2, fun pos cv hc => ?_⟩
  obtain ⟨c, e1, e2⟩ := h3 pos cv hc
  exact ⟨c, e1, (hx c q e2).trans e2⟩
theorem ObR.at {K : PySem.W.Frag} {η : List Addr} {H H' : Hp} {o : Ob} {a : Addr} (h : H' a = H a) (hx : ∀ c u, Imm u → H c = some u → H' c = H c) (r : ObR K η H o a) : ObR K η H' o a := by
  cases o with
  | lst xs => obtain ⟨z, us, e, p⟩ := r; exact ⟨z, us, h.trans e, p⟩
  | tup xs => obtain ⟨z, us, e, p⟩ := r; exact ⟨z, us, h.trans e, p⟩
  | frl xs =>
    obtain ⟨z, us, e, p⟩ := r
    refine ⟨z, us, ?_, p⟩
    rcases e with ⟨o, e⟩ | e
    · exact .inl ⟨o, h.trans e⟩
    · exact .inr e
  | dK xs => obtain ⟨z, us, e, p⟩ := r; exact ⟨z, us, h.trans e, p⟩
  | dT xs => obtain ⟨z, us, e, p⟩ := r; exact ⟨z, us, h.trans e, p⟩
  | fD xs => obtain ⟨z, us, ⟨o, e⟩, p⟩ := r; exact ⟨z, us, ⟨o, h.trans e⟩, p⟩
  | tab x q => exact ⟨r.1, TabS.at h (fun c q e => hx c _ (.inl ⟨c, q, rfl⟩) e) r.2⟩
  | dN xs =>
    obtain ⟨z, us, e, p, k⟩ := r
    refine ⟨z, us, h.trans e, p, fun x hx' => ?_⟩
    obtain ⟨c, h1, h2⟩ := k x hx'
    exact ⟨c, (hx _ _ (.inr (.inl ⟨_, rfl⟩)) h1).trans h1, (hx _ _ (.inr (.inl ⟨_, rfl⟩)) h2).trans h2⟩
  | ins c xs =>
    obtain ⟨C, dx, us, n, e, d, p⟩ := r
    exact ⟨C, dx, us, n, h.trans e, (hx _ _ (.inr (.inr ⟨_, rfl⟩)) d).trans d, p⟩
theorem ObR.some {K : PySem.W.Frag} {η : List Addr} {H : Hp} {o : Ob} {a : Addr} (r : ObR K η H o a) (f : isFrl o = false) : H a ≠ none := by
  cases o with
  | lst xs => obtain ⟨z, us, e, p⟩ := r; rw [e]; exact fun h => nomatch h
  | tup xs => obtain ⟨z, us, e, p⟩ := r; rw [e]; exact fun h => nomatch h
  | frl xs => exact nomatch f
  | dK xs => obtain ⟨z, us, e, p⟩ := r; rw [e]; exact fun h => nomatch h
  | dT xs => obtain ⟨z, us, e, p⟩ := r; rw [e]; exact fun h => nomatch h
  | fD xs => obtain ⟨z, us, ⟨o, e⟩, p⟩ := r; rw [e]; exact fun h => nomatch h
  | tab x q => obtain ⟨_, ps, e, _⟩ := r; rw [e]; exact fun h => nomatch h
  | dN xs => obtain ⟨z, us, e, _⟩ := r; rw [e]; exact fun h => nomatch h
  | ins c xs => obtain ⟨C, dx, us, _, e, _⟩ := r; rw [e]; exact fun h => nomatch h
theorem ObR.K {K : PySem.W.Frag} {η : List Addr} {H H' : Hp} {xs : List V} {a : Addr} (n : H a = none) (r : ObR K η H (.frl xs) a) : ObR K η H' (.frl xs) a := by
  obtain ⟨z, us, e, p⟩ := r
  refine ⟨z, us, .inr ?_, p⟩
  rcases e with ⟨o, e⟩ | e
  · rw [n] at e; cases e
  · exact e
variable {K : PySem.W.Frag} {η : List Addr} {S : Sto} {H : Hp}
theorem mem_drop1 {η : List Addr} {a : Addr} : a ∈ η.drop 1 ↔ ∃ n : Nat, 0 < n ∧ η[n]? = some a := by
  rw [List.mem_iff_getElem?]
  constructor
  · rintro ⟨i, h⟩
    rw [List.getElem?_drop] at h
    exact ⟨1 + i, by omega, h⟩
  · rintro ⟨n, h, e⟩
    exact ⟨n - 1, by rw [List.getElem?_drop, show 1 + (n - 1) = n by omega]; exact e⟩
theorem Rel.obj (r : Rel K η S H) {n : Nat} {a : Addr} (e : η[n]? = some a) : ∃ o, S[n]? = some o ∧ ObR K η H o a := by
  have hn : n < S.length := by rw [← r.len]; exact (List.getElem?_eq_some_iff.mp e).1
  exact ⟨S[n], List.getElem?_eq_getElem hn, r.ob n a _ e (List.getElem?_eq_getElem hn)⟩
/-- what the store owns stands in the heap -/
theorem Rel.there (r : Rel K η S H) {a : Addr} (h : a ∈ η.drop 1) : H a ≠ none := by
  obtain ⟨n, hn, e⟩ := mem_drop1.mp h
  obtain ⟨o, q, x⟩ := r.obj e
  refine x.some ?_
  cases hf : isFrl o with
  | false => rfl
  | true => exact absurd ((r.fz n o q).mp hf) (by omega)
theorem Rel.off (r : Rel K η S H) {a : Addr} (h : H a = none) : a ∉ η.drop 1 := fun m => r.there m h
/-- an object of the heap that the store does not own is written -/
theorem codeO_none {H : Hp} {p : Addr} (hp : H p = none) : ∀ u, Imm u → H p ≠ some u := fun q _ e => by rw [hp] at e; cases e
theorem imm_of {H : Hp} {p : Addr} {o : HO} (hp : H p = some o) (h1 : ∀ c q, o ≠ LamX.CodeO c q) (h2 : ∀ xs, o ≠ .tup xs) (h3 : ∀ b, o ≠ .own b) : ∀ u, Imm u → H p ≠ some u := fun u i e => by
  rw [hp] at e
  injection e with e
  rcases i with ⟨c, q, i⟩ | ⟨xs, i⟩ | ⟨b, i⟩
  · exact h1 c q (e.trans i)
  · exact h2 xs (e.trans i)
  · exact h3 b (e.trans i)
theorem imm_lst {H : Hp} {p : Addr} {us : List V} (hp : H p = some (.lst us)) : ∀ u, Imm u → H p ≠ some u := imm_of hp (fun c q z => by unfold LamX.CodeO at z; cases z) (fun _ z => by cases z) (fun _ z => by cases z)
theorem imm_dK {H : Hp} {p : Addr} {us : List (Key × V)} (hp : H p = some (.dK us)) : ∀ u, Imm u → H p ≠ some u := imm_of hp (fun c q z => by unfold LamX.CodeO at z; cases z) (fun _ z => by cases z) (fun _ z => by cases z)
theorem Rel.other (r : Rel K η S H) {p : Addr} (hp : p ∉ η.drop 1) (h0 : ∀ o us, H p ≠ some (.frz o us)) (u : HO) (hx : ∀ u, Imm u → H p ≠ some u) : Rel K η S (upd H p u) := by
  refine ⟨r.len, r.ne, fun n a o e q => ?_, r.fz, fun m n a h1 h2 e e' => (r.nd m n a h1 h2 e e').imp_right fun ⟨xs, z⟩ => ⟨xs, by rw [upd_ne (fun z' => hp (by rw [← z']; exact mem_drop1.mpr ⟨m, h1, e⟩))]; exact z⟩⟩
  have x := r.ob n a o e q
  by_cases h : a = p
  · subst h
    by_cases hn : n = 0
    · have hf := (r.fz n o q).mpr hn
      cases o with
      | frl xs =>
        obtain ⟨z, us, e2, p2⟩ := x
        refine ⟨z, us, .inr ?_, p2⟩
        rcases e2 with ⟨o, e2⟩ | e2
        · exact absurd e2 (h0 _ _)
        · exact e2
      | _ => cases hf
    · exact absurd (mem_drop1.mpr ⟨n, by omega, e⟩) hp
  · exact x.at (upd_ne h) (fun c q i e => upd_ne (fun z => hx q i (by rw [← z]; exact e)))
/-- an object of the heap that the store does not know -/
theorem Rel.side (r : Rel K η S H) {p : Addr} (hp : H p = none) (u : HO) : Rel K η S (upd H p u) := r.other (r.off hp) (fun o us e => by rw [hp] at e; cases e) u (codeO_none hp)
theorem Ext.side {p : Addr} (hp : H p = none) (u : HO) : Ext η H η (upd H p u) :=
  ⟨List.prefix_refl _, fun b o h n _ => ⟨by rw [upd_ne (ne_of_none h hp)]; exact h, n⟩, fun b o u h => by rw [upd_ne (ne_of_none h hp)]; exact h⟩
/-- an object of the heap is taken into the store -/
theorem Rel.add (r : Rel K η S H) {p : Addr} (hp : p ∉ η.drop 1) {o : Ob} (h : ObR K (η ++ [p]) H o p) (hf : isFrl o = false) : Rel K (η ++ [p]) (S ++ [o]) H := by
  have lt : ∀ {a : Addr} (m : Nat), (η ++ [p])[m]? = some a → (m < η.length ∧ η[m]? = some a) ∨ (m = η.length ∧ a = p) := fun {a} m e => by
    by_cases hm : m < η.length
    · rw [List.getElem?_append_left hm] at e
      exact .inl ⟨hm, e⟩
    · have := (List.getElem?_eq_some_iff.mp e).1
      simp at this
      have hm' : m = η.length := by omega
      subst hm'
      rw [List.getElem?_append_right (Nat.le_refl _)] at e
      simp at e
      exact .inr ⟨rfl, e.symm⟩
  refine ⟨by simp [r.len], by simp, fun n a o' e q => ?_, fun n o' q => ?_, fun m n a h1 h2 e e' => ?_⟩
  · rcases lt n e with ⟨hn, e⟩ | ⟨rfl, rfl⟩
    · rw [List.getElem?_append_left (by rw [← r.len]; exact hn)] at q
      exact (r.ob n a o' e q).mono (List.prefix_append _ _)
    · rw [r.len, List.getElem?_append_right (Nat.le_refl _)] at q
      simp at q
      subst q
      exact h
  · by_cases hn : n < S.length
    · rw [List.getElem?_append_left hn] at q
      exact r.fz n o' q
    · have := (List.getElem?_eq_some_iff.mp q).1
      simp at this
      have hm' : n = S.length := by omega
      subst hm'
      rw [List.getElem?_append_right (Nat.le_refl _)] at q
      simp at q
      subst q
      have := r.ne
      constructor
      · intro z; rw [hf] at z; cases z
      · intro z; omega
  · rcases lt m e with ⟨hm, e1⟩ | ⟨hm, ea⟩
    · rcases lt n e' with ⟨hn, e2⟩ | ⟨hn, ea⟩
      · exact r.nd m n a h1 h2 e1 e2
      · exact absurd (mem_drop1.mpr ⟨m, h1, e1⟩) (by rw [ea]; exact hp)
    · rcases lt n e' with ⟨hn, e2⟩ | ⟨hn, _⟩
      · exact absurd (mem_drop1.mpr ⟨n, h2, e2⟩) (by rw [ea]; exact hp)
      · exact .inl (by omega)
theorem Rel.new (r : Rel K η S H) {p : Addr} (hp : H p = none) {o : Ob} {u : HO} (h : ObR K (η ++ [p]) (upd H p u) o p) (hf : isFrl o = false) : Rel K (η ++ [p]) (S ++ [o]) (upd H p u) :=
  (r.side hp u).add (r.off hp) h hf
theorem Ext.add {p : Addr} (r : Rel K η S H) {η0 : List Addr} {H0 : Hp} (e : Ext η0 H0 η H) (hp : H0 p = none) : Ext η0 H0 (η ++ [p]) H :=
  ⟨e.1.trans (List.prefix_append _ _), fun b o h n t => ⟨(e.2.1 b o h n t).1, fun hm => by
    obtain ⟨k, hk, q⟩ := mem_drop1.mp hm
    by_cases hkl : k < η.length
    · rw [List.getElem?_append_left hkl] at q
      exact (e.2.1 b o h n t).2 (mem_drop1.mpr ⟨k, hk, q⟩)
    · have hb : b = p := by
        rw [List.getElem?_append_right (by omega)] at q
        have := List.mem_of_getElem? q
        simpa using this
      subst hb; rw [hp] at h; cases h⟩, e.2.2⟩
theorem Ext.upd {p : Addr} {η0 : List Addr} {H0 : Hp} (e : Ext η0 H0 η H) (hp : H0 p = none) (u : HO) : Ext η0 H0 η (upd H p u) :=
  ⟨e.1, fun b o h n t => ⟨by rw [upd_ne (ne_of_none h hp)]; exact (e.2.1 b o h n t).1, (e.2.1 b o h n t).2⟩, fun b o u h => by rw [upd_ne (ne_of_none h hp)]; exact e.2.2 b o u h⟩
/-- a tuple of the heap gets one more name -/
theorem Ext.addT {p : Addr} {us : List V} (hp : H p = some (.tup us)) : Ext η H (η ++ [p]) H :=
  ⟨List.prefix_append _ _, fun b o h n t => ⟨h, fun hm => by
    obtain ⟨k, hk, q⟩ := mem_drop1.mp hm
    by_cases hkl : k < η.length
    · rw [List.getElem?_append_left hkl] at q
      exact n (mem_drop1.mpr ⟨k, hk, q⟩)
    · have hb : b = p := by
        rw [List.getElem?_append_right (by omega)] at q
        have := List.mem_of_getElem? q
        simpa using this
      subst hb; rw [hp] at h; cases h; cases t⟩, fun _ _ _ h => h⟩
theorem Rel.addT (r : Rel K η S H) {p : Addr} {us vs : List V} (hp : H p = some (.tup us)) (h : VsR η vs us) (hl : vs.length ≤ sizeLine) : Rel K (η ++ [p]) (S ++ [.tup vs]) H := by
  have lt : ∀ {a : Addr} (m : Nat), (η ++ [p])[m]? = some a → (m < η.length ∧ η[m]? = some a) ∨ (m = η.length ∧ a = p) := fun {a} m e => by
    by_cases hm : m < η.length
    · rw [List.getElem?_append_left hm] at e
      exact .inl ⟨hm, e⟩
    · have := (List.getElem?_eq_some_iff.mp e).1
      simp at this
      have hm' : m = η.length := by omega
      subst hm'
      rw [List.getElem?_append_right (Nat.le_refl _)] at e
      simp at e
      exact .inr ⟨rfl, e.symm⟩
  refine ⟨by simp [r.len], by simp, fun n a o' e q => ?_, fun n o' q => ?_, fun m n a h1 h2 e e' => ?_⟩
  · rcases lt n e with ⟨hn, e⟩ | ⟨rfl, rfl⟩
    · rw [List.getElem?_append_left (by rw [← r.len]; exact hn)] at q
      exact (r.ob n a o' e q).mono (List.prefix_append _ _)
    · rw [r.len, List.getElem?_append_right (Nat.le_refl _)] at q
      simp at q
      subst q
      exact ⟨hl, us, hp, h.mono (List.prefix_append _ _)⟩
  · by_cases hn : n < S.length
    · rw [List.getElem?_append_left hn] at q
      exact r.fz n o' q
    · have := (List.getElem?_eq_some_iff.mp q).1
      simp at this
      have hm' : n = S.length := by omega
      subst hm'
      rw [List.getElem?_append_right (Nat.le_refl _)] at q
      simp at q
      subst q
      have := r.ne
      constructor
      · intro z; cases z
      · intro z; omega
  · rcases lt m e with ⟨hm, e1⟩ | ⟨hm, ea⟩
    · rcases lt n e' with ⟨hn, e2⟩ | ⟨hn, ea⟩
      · exact r.nd m n a h1 h2 e1 e2
      · exact .inr ⟨us, by rw [ea]; exact hp⟩
    · exact .inr ⟨us, by rw [ea]; exact hp⟩
theorem Ext.new (r : Rel K η S H) {p : Addr} (hp : H p = none) (u : HO) : Ext η H (η ++ [p]) (L2.upd H p u) := Ext.add (r.side hp u) (Ext.side hp u) hp
theorem VR.new {p : Addr} (r : Rel K η S H) : VR (η ++ [p]) (.ref S.length) (.ref p) := ⟨p, by rw [← r.len]; simp, rfl⟩
/-- an object is written -/
theorem Rel.set (r : Rel K η S H) {n : Nat} {p : Addr} {o o' : Ob} {u : HO} (hn : η[n]? = some p) (ho : S[n]? = some o) (f : isFrl o = false) (h : ObR K η (upd H p u) o' p) (f' : isFrl o' = false) (g : isTup o = false := by rfl) : Rel K η (S.set n o') (upd H p u) := by
  have y := r.ob n p o hn ho
  have nt : ∀ xs, H p ≠ some (.tup xs) := fun xs z => by
    cases o with
    | lst xs => obtain ⟨_, us, e2, _⟩ := y; rw [z] at e2; cases e2
    | tup xs => cases g
    | frl xs => cases f
    | dK xs => obtain ⟨_, us, e2, _⟩ := y; rw [z] at e2; cases e2
    | dT xs => obtain ⟨_, us, e2, _⟩ := y; rw [z] at e2; cases e2
    | fD xs => obtain ⟨_, us, ⟨_, e2⟩, _⟩ := y; rw [z] at e2; cases e2
    | tab xs q => obtain ⟨_, ps, e2, _⟩ := y; rw [z] at e2; cases e2
    | dN xs => obtain ⟨_, us, e2, _⟩ := y; rw [z] at e2; cases e2
    | ins c xs => obtain ⟨_, _, _, _, e2, _⟩ := y; rw [z] at e2; cases e2
  have nx : ∀ u, Imm u → H p ≠ some u := fun u i z => by
    rcases i with ⟨c, q, rfl⟩ | ⟨xs, rfl⟩ | ⟨b, rfl⟩
    · cases o with
      | lst xs => obtain ⟨_, us, e2, _⟩ := y; unfold LamX.CodeO at z; rw [z] at e2; cases e2
      | tup xs => cases g
      | frl xs => cases f
      | dK xs => obtain ⟨_, us, e2, _⟩ := y; unfold LamX.CodeO at z; rw [z] at e2; cases e2
      | dT xs => obtain ⟨_, us, e2, _⟩ := y; unfold LamX.CodeO at z; rw [z] at e2; cases e2
      | fD xs => obtain ⟨_, us, ⟨_, e2⟩, _⟩ := y; unfold LamX.CodeO at z; rw [z] at e2; cases e2
      | tab xs q => obtain ⟨_, ps, e2, _⟩ := y; unfold LamX.CodeO at z; rw [z] at e2; cases e2
      | dN xs =>
        obtain ⟨_, us, e2, _⟩ := y
        rw [z] at e2
        injection e2 with e2
        exact codeO_ne_dn e2
      | ins c xs => obtain ⟨_, _, _, _, e2, _⟩ := y; unfold LamX.CodeO at z; rw [z] at e2; cases e2
    · exact nt xs z
    · cases o with
      | lst xs => obtain ⟨_, us, e2, _⟩ := y; rw [z] at e2; cases e2
      | tup xs => cases g
      | frl xs => cases f
      | dK xs => obtain ⟨_, us, e2, _⟩ := y; rw [z] at e2; cases e2
      | dT xs => obtain ⟨_, us, e2, _⟩ := y; rw [z] at e2; cases e2
      | fD xs => obtain ⟨_, us, ⟨_, e2⟩, _⟩ := y; rw [z] at e2; cases e2
      | tab xs q => obtain ⟨_, ps, e2, _⟩ := y; rw [z] at e2; cases e2
      | dN xs => obtain ⟨_, us, e2, _⟩ := y; rw [z] at e2; cases e2
      | ins c xs => obtain ⟨_, _, _, _, e2, _⟩ := y; rw [z] at e2; cases e2
  have hnl : n < S.length := (List.getElem?_eq_some_iff.mp ho).1
  have h0 : 0 < n := by
    cases n with
    | zero => have := (r.fz 0 o ho).mpr rfl; rw [f] at this; cases this
    | succ n => omega
  refine ⟨by simp [r.len], by simpa using r.ne, fun m a o2 e q => ?_, fun m o2 q => ?_, fun m k a h1 h2 e e' => (r.nd m k a h1 h2 e e').imp_right fun ⟨xs, z⟩ => ⟨xs, by rw [upd_ne (fun z' => nt xs (by rw [← z']; exact z))]; exact z⟩⟩
  · by_cases hm : m = n
    · subst hm
      rw [List.getElem?_set_self hnl] at q
      rw [hn] at e
      cases e; cases q
      exact h
    · rw [List.getElem?_set_ne (Ne.symm hm)] at q
      have x := r.ob m a o2 e q
      by_cases ha : a = p
      · subst ha
        by_cases hm0 : m = 0
        · have hf := (r.fz m o2 q).mpr hm0
          cases o2 with
          | frl xs =>
            obtain ⟨z, us, e1, p1⟩ := x
            refine ⟨z, us, .inr ?_, p1⟩
            rcases e1 with ⟨ob, e1⟩ | e1
            · exfalso
              cases o with
              | lst xs => obtain ⟨_, us, e2, _⟩ := y; rw [e1] at e2; cases e2
              | tup xs => obtain ⟨_, us, e2, _⟩ := y; rw [e1] at e2; cases e2
              | frl xs => cases f
              | dK xs => obtain ⟨_, us, e2, _⟩ := y; rw [e1] at e2; cases e2
              | dT xs => obtain ⟨_, us, e2, _⟩ := y; rw [e1] at e2; cases e2
              | fD xs => obtain ⟨_, us, ⟨_, e2⟩, _⟩ := y; rw [e1] at e2; cases e2
              | tab xs q => obtain ⟨_, ps, e2, _⟩ := y; rw [e1] at e2; cases e2
              | dN xs => obtain ⟨_, us, e2, _⟩ := y; rw [e1] at e2; cases e2
              | ins c xs => obtain ⟨_, _, _, _, e2, _⟩ := y; rw [e1] at e2; cases e2
            · exact e1
          | _ => cases hf
        · rcases r.nd m n a (by omega) h0 e hn with z | ⟨xs, z⟩
          · exact absurd z hm
          · exact absurd z (nt xs)
      · exact x.at (upd_ne ha) (fun c q i e => upd_ne (fun z => nx q i (by rw [← z]; exact e)))
  · by_cases hm : m = n
    · subst hm
      rw [List.getElem?_set_self hnl] at q
      cases q
      constructor
      · intro z; rw [f'] at z; cases z
      · intro z; omega
    · rw [List.getElem?_set_ne (Ne.symm hm)] at q
      exact r.fz m o2 q
theorem Rel.pos (r : Rel K η S H) {n : Nat} {o : Ob} (ho : S[n]? = some o) (f : isFrl o = false) : 0 < n := by
  cases n with
  | zero => have := (r.fz 0 o ho).mpr rfl; rw [f] at this; cases this
  | succ n => omega
theorem Ext.set (r : Rel K η S H) {n : Nat} {p : Addr} {o : Ob} {u : HO} (hn : η[n]? = some p) (ho : S[n]? = some o) (f : isFrl o = false) (g : isFD o = false := by rfl) : Ext η H η (L2.upd H p u) :=
  ⟨List.prefix_refl _, fun b o h nb _ => ⟨by
    rw [upd_ne (fun e => nb (by rw [e]; exact mem_drop1.mpr ⟨n, r.pos ho f, hn⟩))]; exact h, nb⟩, fun b o' u' h => by
    rw [upd_ne (fun e => ?_)]; exact h
    subst e
    have y := r.ob n b o hn ho
    cases o with
    | lst xs => obtain ⟨_, us, e2, _⟩ := y; rw [h] at e2; cases e2
    | tup xs => obtain ⟨_, us, e2, _⟩ := y; rw [h] at e2; cases e2
    | frl xs => cases f
    | dK xs => obtain ⟨_, us, e2, _⟩ := y; rw [h] at e2; cases e2
    | dT xs => obtain ⟨_, us, e2, _⟩ := y; rw [h] at e2; cases e2
    | fD xs => cases g
    | tab xs q => obtain ⟨_, ps, e2, _⟩ := y; rw [h] at e2; cases e2
    | dN xs => obtain ⟨_, us, e2, _⟩ := y; rw [h] at e2; cases e2
    | ins c xs => obtain ⟨_, _, _, _, e2, _⟩ := y; rw [h] at e2; cases e2⟩

/-! ### what is wanted of an outcome -/
section
variable {α β : Type} {rel : List Addr → α → β → Prop} {mg : Str → Option Value} {W : WX} {σ : St}
def Po (K : PySem.W.Frag) (mg : Str → Option Value) (W : WX) (σ : St) (rel : List Addr → α → β → Prop) (η : List Addr) (H : Hp) (r : R α) (Q : β → Hp → Prop) : Prop := match r with
  | .ok v S' => ∀ η' H' u, Ext η H η' H' → Rel K η' S' H' → rel η' v u → Q u H'
  | .exc c S' => ∀ η' H' C, Ext η H η' H' → Rel K η' S' H' → mg (Str.ofString c) = some (.ref C) → W (.ref C) none σ H'
  | .bad => False
theorem Po.mono {η1 : List Addr} {H1 : Hp} {r : R α} {Q : β → Hp → Prop} (e : Ext η H η1 H1) (p : Po K mg W σ rel η H r Q) : Po K mg W σ rel η1 H1 r Q := by
  cases r with
  | ok v S' => exact fun η' H' u e' r q => p η' H' u (e.trans e') r q
  | exc c S' => exact fun η' H' C e' r q => p η' H' C (e.trans e') r q
  | bad => exact p
theorem Po.imp {r : R α} {Q Q' : β → Hp → Prop} (p : Po K mg W σ rel η H r Q) (h : ∀ u H', Q u H' → Q' u H') : Po K mg W σ rel η H r Q' := by
  cases r with
  | ok v S' => exact fun η' H' u e' r q => h _ _ (p η' H' u e' r q)
  | exc c S' => exact p
  | bad => exact p
theorem Po.bind {γ δ : Type} {rel2 : List Addr → γ → δ → Prop} {r : R α} {f : α → Sto → R γ} {Q : δ → Hp → Prop} (p : Po K mg W σ rel2 η H (r.bind f) Q) :
    Po K mg W σ rel η H r (fun u H1 => ∃ η1 S1 v, Ext η H η1 H1 ∧ Rel K η1 S1 H1 ∧ rel η1 v u ∧ Po K mg W σ rel2 η1 H1 (f v S1) Q) := by
  cases r with
  | ok v S' => exact fun η' H' u e' r q => ⟨η', S', v, e', r, q, Po.mono e' p⟩
  | exc c S' => exact p
  | bad => exact p
/-- an answer that is there at once -/
theorem Po.now {v : α} {u : β} {Q : β → Hp → Prop} (p : Po K mg W σ rel η H (.ok v S) Q) (r : Rel K η S H) (q : rel η v u) : Q u H := p η H u (Ext.refl _ _) r q
end

/-! ### the judgements -/
section
variable (X : Cx) (W : WX)
def lfE (m : St → Sto → R V) : TE := fun σ H Q => ∃ η S σ0, Rel X.K η S H ∧ SR η σ0 σ ∧ Po X.K X.mg W σ VR η H (m σ0 S) Q
def lfT (m : St → Sto → R Bool) : TT := fun σ H Q => ∃ η S σ0, Rel X.K η S H ∧ SR η σ0 σ ∧ Po X.K X.mg W σ (fun _ a b => b = a) η H (m σ0 S) Q
def lfA (m : St → Sto → R (List V)) : TA := fun σ H Q => ∃ η S σ0, Rel X.K η S H ∧ SR η σ0 σ ∧ Po X.K X.mg W σ VsR η H (m σ0 S) Q
structure FE (e : Expr) (m : St → Sto → R V) : Prop where
  run : PE X e (lfE X W m)
structure FT (e : Expr) (m : St → Sto → R Bool) : Prop where
  run : PT X e (lfT X W m)
structure FW (e : Expr) (m : St → Sto → R Bool) : Prop where
  run : PW X e (lfT X W m)
structure FA (e : List Expr) (m : St → Sto → R (List V)) : Prop where
  run : PA X e (lfA X W m)
inductive Fl where
  | nx (σ : St)
  | rt (v : V)
  | bk (σ : St)
  | ct (σ : St)
  | rs (c : String) (σ : St)
def PoS (D : Ends) (η : List Addr) (H : Hp) (r : R Fl) : Prop := match r with
  | .ok (.nx σ) S' => ∀ η' H' σ1, Ext η H η' H' → Rel X.K η' S' H' → SR η' σ σ1 → D.nx σ1 H'
  | .ok (.rt v) S' => ∀ η' H' u, Ext η H η' H' → Rel X.K η' S' H' → VR η' v u → D.rt u H'
  | .ok (.bk σ) S' => ∀ η' H' σ1, Ext η H η' H' → Rel X.K η' S' H' → SR η' σ σ1 → D.bk σ1 H'
  | .ok (.ct σ) S' => ∀ η' H' σ1, Ext η H η' H' → Rel X.K η' S' H' → SR η' σ σ1 → D.ct σ1 H'
  | .ok (.rs c σ) S' => ∀ η' H' σ1 C, Ext η H η' H' → Rel X.K η' S' H' → SR η' σ σ1 → X.mg (Str.ofString c) = some (.ref C) → W (.ref C) none σ1 H'
  | .exc _ _ => False
  | .bad => False
def lfS (c : St → Sto → R Fl) : TS := fun D σ H => ∃ η S σ0, Rel X.K η S H ∧ SR η σ0 σ ∧ PoS X W D η H (c σ0 S)
structure FS (s : Stmt) (c : St → Sto → R Fl) : Prop where
  run : PS X s (lfS X W c)
structure FSs (s : List Stmt) (c : St → Sto → R Fl) : Prop where
  run : PSs X s (lfS X W c)
end
section
variable {X : Cx} {W : WX}
theorem PoS.mono {D : Ends} {η1 : List Addr} {H1 : Hp} {r : R Fl} (e : Ext η H η1 H1) (p : PoS X W D η H r) : PoS X W D η1 H1 r := by
  cases r with
  | ok f S' =>
    cases f with
    | nx σ => exact fun η' H' u e' r q => p η' H' u (e.trans e') r q
    | rt σ => exact fun η' H' u e' r q => p η' H' u (e.trans e') r q
    | bk σ => exact fun η' H' u e' r q => p η' H' u (e.trans e') r q
    | ct σ => exact fun η' H' u e' r q => p η' H' u (e.trans e') r q
    | rs c σ => exact fun η' H' u C e' r q => p η' H' u C (e.trans e') r q
  | exc c S' => exact p
  | bad => exact p
/-- an expression within a statement: what it raises leaves the statement -/
def sE {α : Type} (r : R α) (σ : St) (k : α → Sto → R Fl) : R Fl := match r with
  | .ok v S => k v S
  | .exc c S => .ok (.rs c σ) S
  | .bad => .bad
@[simp] theorem sE_ok {α : Type} (a : α) (S : Sto) (σ : St) (f : α → Sto → R Fl) : sE (R.ok a S) σ f = f a S := rfl
@[simp] theorem sE_exc {α : Type} (c : String) (S : Sto) (σ : St) (f : α → Sto → R Fl) : sE (R.exc c S : R α) σ f = .ok (.rs c σ) S := rfl
@[simp] theorem sE_bad {α : Type} (σ : St) (f : α → Sto → R Fl) : sE (R.bad : R α) σ f = .bad := rfl
theorem PoS.expr {α β : Type} {rel : List Addr → α → β → Prop} {D : Ends} {r : R α} {σ0 σ : St} {k : α → Sto → R Fl} (hs : SR η σ0 σ) (p : PoS X W D η H (sE r σ0 k)) :
    Po X.K X.mg W σ rel η H r (fun u H1 => ∃ η1 S1 v, Ext η H η1 H1 ∧ Rel X.K η1 S1 H1 ∧ rel η1 v u ∧ PoS X W D η1 H1 (k v S1)) := by
  cases r with
  | ok v S' => exact fun η' H' u e' r q => ⟨η', S', v, e', r, q, PoS.mono e' p⟩
  | exc c S' => exact fun η' H' C e' r q => p η' H' σ C e' r (hs.mono e'.1) q
  | bad => exact p
def sSq (a b : St → Sto → R Fl) : St → Sto → R Fl := fun σ S => match a σ S with
  | .ok (.nx σ1) S1 => b σ1 S1
  | r => r
end
theorem PE.wk {X : Cx} {e : Expr} {t t' : TE} (h : PE X e t) (w : ∀ σ H Q, t' σ H Q → t σ H Q) : PE X e t' := ⟨fun pins s σ H Q I q => h.run pins s σ H Q I (w _ _ _ q)⟩
theorem PT.wk {X : Cx} {e : Expr} {t t' : TT} (h : PT X e t) (w : ∀ σ H Q, t' σ H Q → t σ H Q) : PT X e t' := ⟨fun pins s σ H Q I q => h.run pins s σ H Q I (w _ _ _ q)⟩
theorem PW.wk {X : Cx} {e : Expr} {t t' : TT} (h : PW X e t) (w : ∀ σ H Q, t' σ H Q → t σ H Q) : PW X e t' := ⟨fun wh pins s σ H Q I q => h.run wh pins s σ H Q I (w _ _ _ q)⟩
theorem PA.wk {X : Cx} {e : List Expr} {t t' : TA} (h : PA X e t) (w : ∀ σ H Q, t' σ H Q → t σ H Q) : PA X e t' := ⟨fun p pins s σ H Q I q => h.run p pins s σ H Q I (w _ _ _ q)⟩
theorem PS.wk {X : Cx} {e : Stmt} {t t' : TS} (h : PS X e t) (w : ∀ D σ H, t' D σ H → t D σ H) : PS X e t' := ⟨fun pins s σ H D I q => h.run pins s σ H D I (w _ _ _ q)⟩
theorem PSs.wk {X : Cx} {e : List Stmt} {t t' : TS} (h : PSs X e t) (w : ∀ D σ H, t' D σ H → t D σ H) : PSs X e t' := ⟨fun pins s σ H D I q => h.run pins s σ H D I (w _ _ _ q)⟩

/-! ### expressions -/
section
variable {X : Cx} {W : WX} {a b e : Expr} {ma mb m : St → Sto → R V} {pos : Pos}
def eV (i : Nat) : St → Sto → R V := fun σ S => match σ[i]? with
  | some (some v) => .ok v S
  | _ => .bad
theorem fe_v (i : Nat) {x : Str} {pos : Pos} (hN : X.N[i]? = some x := by rfl) (hv : Vis X.env.scope x := by first | exact Or.inl rfl | exact Or.inr (Or.inl rfl) | exact Or.inr (Or.inr rfl)) (hd : (x == ("__debug__" : Str)) = false := by decide)
    (hcd : (x == ("__classdict__" : Str)) = false := by decide) : FE X W (.Name x pos) (eV i) := ⟨PE.wk (pe_var hN hv hd hcd) fun σ H Q h => by
  obtain ⟨η, S, σ0, hR, hS, p⟩ := h
  unfold eV at p
  cases e : σ0[i]? with
  | none => rw [e] at p; exact p.elim
  | some o =>
    cases o with
    | none => rw [e] at p; exact p.elim
    | some v =>
      rw [e] at p
      obtain ⟨u, h1, h2⟩ := pget hS e
      cases u with
      | none => exact h2.elim
      | some u => exact ⟨u, h1, p.now hR h2⟩⟩
def eC (v : V) : St → Sto → R V := fun _ S => .ok v S
def closedV : V → Bool
  | .ref _ => false
  | _ => true
theorem VR.closed {v : V} (h : closedV v = true) : VR η v v := by
  cases v with
  | ref n => cases h
  | _ => rfl
theorem fe_c {v : V} (h : PE X e (tC v)) (hc : closedV v = true := by rfl) : FE X W e (eC v) := ⟨PE.wk h fun σ H Q h => by
  obtain ⟨η, S, σ0, hR, hS, p⟩ := h
  exact p.now hR (VR.closed hc)⟩
def OpM (X : Cx) (r : R2) (m : V → V → Sto → R V) : Prop := ∀ W σ η S H x y u v Q, Rel X.K η S H → VR η x u → VR η y v → Po X.K X.mg W σ VR η H (m x y S) Q → r u v H Q
theorem OpM.or {r r' : R2} {m : V → V → Sto → R V} (p : V → V → Sto → Bool) (h : OpM X r fun x y S => if p x y S then m x y S else .bad) (h' : OpM X r' fun x y S => if p x y S then .bad else m x y S) : OpM X (fun x y H Q => r x y H Q ∨ r' x y H Q) m := by
  intro W σ η S H x y u v Q hR hx hy q
  cases e : p x y S with
  | true => exact .inl (h W σ η S H x y u v Q hR hx hy (by dsimp only; rw [e]; exact q))
  | false => exact .inr (h' W σ η S H x y u v Q hR hx hy (by dsimp only; rw [e]; exact q))
theorem OpR.or {f : Value → Value → Sem Value} {r r' : R2} (h : OpR X f r) (h' : OpR X f r') : OpR X f (fun x y H Q => r x y H Q ∨ r' x y H Q) := by
  intro pins s σ H x y v u Q I rx ry q
  rcases q with q | q
  · exact h pins s σ H x y v u Q I rx ry q
  · exact h' pins s σ H x y v u Q I rx ry q
def eO (m : V → V → Sto → R V) (ma mb : St → Sto → R V) : St → Sto → R V := fun σ S => (ma σ S).bind fun x S1 => (mb σ S1).bind fun y S2 => m x y S2
theorem lf_bin {ma mb : St → Sto → R V} {r : R2} {m : V → V → Sto → R V} (hm : OpM X r m) {σ : St} {H : Hp} {Q : VK} (h : lfE X W (eO m ma mb) σ H Q) :
    lfE X W ma σ H fun x H1 => lfE X W mb σ H1 fun y H2 => r x y H2 Q := by
  obtain ⟨η, S, σ0, hR, hS, p⟩ := h
  refine ⟨η, S, σ0, hR, hS, (Po.bind (rel := VR) p).imp fun u H1 ⟨η1, S1, v, e1, hR1, r1, p1⟩ => ?_⟩
  refine ⟨η1, S1, σ0, hR1, hS.mono e1.1, (Po.bind (rel := VR) p1).imp fun u2 H2 ⟨η2, S2, v2, e2, hR2, r2, p2⟩ => ?_⟩
  exact hm W σ η2 S2 H2 v v2 u u2 Q hR2 (r1.mono e2.1) r2 p2
theorem fe_op {op : Operator} {r : R2} {m : V → V → Sto → R V} (ho : OpR X (binaryOp op) r) (hm : OpM X r m) (ha : FE X W a ma) (hb : FE X W b mb) : FE X W (.BinOp a op b pos) (eO m ma mb) :=
  ⟨PE.wk (pe_op ho ha.run hb.run) fun σ H Q h => lf_bin hm h⟩
theorem fe_cmp {op : CmpOp} {r : R2} {m : V → V → Sto → R V} (ho : OpR X (compareOp op) r) (hm : OpM X r m) (ha : FE X W a ma) (hb : FE X W b mb) (hk : behindInMarks op b = false := by first | exact nobehind _ (by decide) (by decide) | rfl) : FE X W (.Compare a [op] [b] pos) (eO m ma mb) :=
  ⟨PE.wk (pe_cmpR ho ha.run hb.run hk) fun σ H Q h => lf_bin hm h⟩
theorem fe_ix {r : R2} {m : V → V → Sto → R V} (hr : IxR X r) (hm : OpM X r m) (ha : FE X W a ma) (hb : FE X W b mb) (hs : PlainIx b := by intro _ _; rfl) : FE X W (.Subscript a b pos) (eO m ma mb) :=
  ⟨PE.wk (pe_ix hr ha.run hb.run hs) fun σ H Q h => lf_bin hm h⟩
def UnM (X : Cx) (r : V → Hp → VK → Prop) (m : V → Sto → R V) : Prop := ∀ W σ η S H x u Q, Rel X.K η S H → VR η x u → Po X.K X.mg W σ VR η H (m x S) Q → r u H Q
def eU (m : V → Sto → R V) (ma : St → Sto → R V) : St → Sto → R V := fun σ S => (ma σ S).bind fun x S1 => m x S1
theorem fe_un {op : UnaryOp} {r : V → Hp → VK → Prop} {m : V → Sto → R V} (ho : UnR X (unaryOp op) r) (hm : UnM X r m) (ha : FE X W a ma) : FE X W (.UnaryOp op a pos) (eU m ma) :=
  ⟨PE.wk (pe_un ho ha.run) fun σ H Q h => by
    obtain ⟨η, S, σ0, hR, hS, p⟩ := h
    refine ⟨η, S, σ0, hR, hS, (Po.bind (rel := VR) p).imp fun u H1 ⟨η1, S1, v, e1, hR1, r1, p1⟩ => ?_⟩
    exact hm W σ η1 S1 H1 v u Q hR1 r1 p1⟩
/-! arguments, displays -/
def aNil : St → Sto → R (List V) := fun _ S => .ok [] S
def aCons (ma : St → Sto → R V) (mr : St → Sto → R (List V)) : St → Sto → R (List V) := fun σ S => (ma σ S).bind fun x S1 => (mr σ S1).bind fun xs S2 => .ok (x :: xs) S2
theorem fa_nil : FA X W [] aNil := ⟨PA.wk pa_nil fun σ H Q h => by
  obtain ⟨η, S, σ0, hR, hS, p⟩ := h
  exact p.now hR .nil⟩
theorem fa_cons {es : List Expr} {mr : St → Sto → R (List V)} (ha : FE X W e ma) (hr : FA X W es mr) (hs : starEach (e :: es) X.env = (false, eval e X.env) :: starEach es X.env := by rfl) : FA X W (e :: es) (aCons ma mr) :=
  ⟨PA.wk (pa_cons ha.run hr.run hs) fun σ H Q h => by
    obtain ⟨η, S, σ0, hR, hS, p⟩ := h
    refine ⟨η, S, σ0, hR, hS, (Po.bind (rel := VR) p).imp fun u H1 ⟨η1, S1, v, e1, hR1, r1, p1⟩ => ?_⟩
    refine ⟨η1, S1, σ0, hR1, hS.mono e1.1, (Po.bind (rel := VsR) p1).imp fun u2 H2 ⟨η2, S2, v2, e2, hR2, r2, p2⟩ => ?_⟩
    exact p2.now hR2 (.cons (r1.mono e2.1) r2)⟩
def alloc (o : Ob) (S : Sto) : R V := .ok (.ref S.length) (S ++ [o])
theorem Po.lst {σ : St} {xs us : List V} {Q : VK} (hR : Rel X.K η S H) (r : VsR η xs us) (hl : xs.length ≤ sizeLine) (p : Po X.K X.mg W σ VR η H (alloc (.lst xs) S) Q) : ∀ q, H q = none → Q (.ref q) (upd H q (.lst us)) := fun q hq =>
  p (η ++ [q]) _ _ (Ext.new hR hq _) (hR.new hq (o := .lst xs) ⟨hl, us, upd_same, r.mono (List.prefix_append _ _)⟩ rfl) (VR.new hR)
theorem Po.tup {σ : St} {xs us : List V} {Q : VK} (hR : Rel X.K η S H) (r : VsR η xs us) (hl : xs.length ≤ sizeLine) (p : Po X.K X.mg W σ VR η H (alloc (.tup xs) S) Q) : ∀ q, H q = none → Q (.ref q) (upd H q (.tup us)) := fun q hq =>
  p (η ++ [q]) _ _ (Ext.new hR hq _) (hR.new hq (o := .tup xs) ⟨hl, us, upd_same, r.mono (List.prefix_append _ _)⟩ rfl) (VR.new hR)
def lim : Nat := 16777216
theorem lim_eq : lim = sizeLine := rfl
def eLst (mr : St → Sto → R (List V)) : St → Sto → R V := fun σ S => (mr σ S).bind fun xs S1 => if xs.length ≤ lim then alloc (.lst xs) S1 else .bad
def eTup (mr : St → Sto → R (List V)) : St → Sto → R V := fun σ S => (mr σ S).bind fun xs S1 => if xs.length ≤ lim then alloc (.tup xs) S1 else .bad
theorem fe_lst {es : List Expr} {mr : St → Sto → R (List V)} (h : FA X W es mr) : FE X W (.List es pos) (eLst mr) := ⟨PE.wk (pe_lst h.run) fun σ H Q h => by
  obtain ⟨η, S, σ0, hR, hS, p⟩ := h
  refine ⟨η, S, σ0, hR, hS, (Po.bind (rel := VsR) p).imp fun u H1 ⟨η1, S1, v, e1, hR1, r1, p1⟩ => ?_⟩
  by_cases hl : v.length ≤ lim
  · rw [if_pos hl] at p1
    exact ⟨by rw [← r1.length]; exact hl, p1.lst hR1 r1 hl⟩
  · rw [if_neg hl] at p1; exact p1.elim⟩
theorem fe_tup {es : List Expr} {mr : St → Sto → R (List V)} {x1} (h : FA X W es mr) : FE X W (.Tuple es x1 pos) (eTup mr) := ⟨PE.wk (pe_tup h.run) fun σ H Q h => by
  obtain ⟨η, S, σ0, hR, hS, p⟩ := h
  refine ⟨η, S, σ0, hR, hS, (Po.bind (rel := VsR) p).imp fun u H1 ⟨η1, S1, v, e1, hR1, r1, p1⟩ => ?_⟩
  by_cases hl : v.length ≤ lim
  · rw [if_pos hl] at p1
    exact ⟨by rw [← r1.length]; exact hl, p1.tup hR1 r1 hl⟩
  · rw [if_neg hl] at p1; exact p1.elim⟩
/-! built-ins by name, defs -/
def CallM (X : Cx) (r : List V → Hp → VK → Prop) (m : List V → Sto → R V) : Prop := ∀ W σ η S H xs us Q, Rel X.K η S H → VsR η xs us → Po X.K X.mg W σ VR η H (m xs S) Q → r us H Q
theorem CallR.or {f : Value} {r r' : List V → Hp → VK → Prop} (h : CallR X f r) (h' : CallR X f r') : CallR X f (fun xs H Q => r xs H Q ∨ r' xs H Q) := by
  intro pins s σ H xs us Q I rs q
  rcases q with q | q
  · exact h pins s σ H xs us Q I rs q
  · exact h' pins s σ H xs us Q I rs q
theorem CallM.or {r r' : List V → Hp → VK → Prop} {m : List V → Sto → R V} (p : List V → Sto → Bool) (h : CallM X r fun x S => if p x S then m x S else .bad) (h' : CallM X r' fun x S => if p x S then .bad else m x S) : CallM X (fun x H Q => r x H Q ∨ r' x H Q) m := by
  intro W σ η S H x u Q hR hx q
  cases e : p x S with
  | true => exact .inl (h W σ η S H x u Q hR hx (by dsimp only; rw [e]; exact q))
  | false => exact .inr (h' W σ η S H x u Q hR hx (by dsimp only; rw [e]; exact q))
def eA (m : List V → Sto → R V) (ma : St → Sto → R (List V)) : St → Sto → R V := fun σ S => (ma σ S).bind m
theorem lf_args {ma : St → Sto → R (List V)} {r : List V → Hp → VK → Prop} {m : List V → Sto → R V} (hm : CallM X r m) {σ : St} {H : Hp} {Q : VK} (h : lfE X W (eA m ma) σ H Q) : lfA X W ma σ H fun xs H1 => r xs H1 Q := by
  obtain ⟨η, S, σ0, hR, hS, p⟩ := h
  refine ⟨η, S, σ0, hR, hS, (Po.bind (rel := VsR) p).imp fun u H1 ⟨η1, S1, v, e1, hR1, r1, p1⟩ => ?_⟩
  exact hm W σ η1 S1 H1 v u Q hR1 r1 p1
theorem fe_callB {x : Str} {p : Pos} {es : List Expr} {id : String} {r : List V → Hp → VK → Prop} {m : List V → Sto → R V} {mr : St → Sto → R (List V)} (hc : CallR X (.builtin id) r) (hm : CallM X r m) (hg : Gl X x) (hx : X.mg x = none) (hv : bootBuiltins x = some (.builtin id)) (ha : FA X W (e :: es) mr)
    (hn : x ≠ "__name__" := by decide) (hdb : (x == ("__debug__" : Str)) = false := by decide)
    (he : starEach (e :: es) X.env = (false, eval e X.env) :: starEach es X.env := by rfl) (hpl : (backTo pos (starEach es X.env)).any (·.1) = false := by rfl) : FE X W (.Call (.Name x p) (e :: es) [] pos) (eA m mr) :=
  ⟨PE.wk (pe_callB hc hg hx hv ha.run hn hdb he hpl) fun σ H Q h => lf_args hm h⟩
theorem fe_callTy {x : Str} {p : Pos} {es : List Expr} {id : String} {r : List V → Hp → VK → Prop} {m : List V → Sto → R V} {mr : St → Sto → R (List V)} (hc : CallR X (.type id) r) (hm : CallM X r m) (hg : Gl X x) (hx : X.mg x = none) (hv : bootBuiltins x = some (.type id)) (ha : FA X W (e :: es) mr)
    (hn : x ≠ "__name__" := by decide) (hdb : (x == ("__debug__" : Str)) = false := by decide)
    (he : starEach (e :: es) X.env = (false, eval e X.env) :: starEach es X.env := by rfl) (hpl : (backTo pos (starEach es X.env)).any (·.1) = false := by rfl) : FE X W (.Call (.Name x p) (e :: es) [] pos) (eA m mr) :=
  ⟨PE.wk (pe_callTy hc hg hx hv ha.run hn hdb he hpl) fun σ H Q h => lf_args hm h⟩
/-- a def's promise: what its functional reading says -/
def spM (K : PySem.W.Frag) (mg : Str → Option Value) (n : Nat) (m : List V → Sto → R V) : Sp := fun vs H Q E => vs.length = n ∧ ∃ η S vs0, Rel K η S H ∧ VsR η vs0 vs ∧ Po K mg (fun c d _ H => E c d H) [] VR η H (m vs0 S) Q
theorem fe_call {x : Str} {p : Pos} {es : List Expr} {k n : Nat} {f : Addr} {fd : FuncData} {ps : List Str} {m : List V → Sto → R V} {mr : St → Sto → R (List V)} (F : FnOk X.prog X.w X.K X.mg X.base (L2.CX X.prog X.w) k f fd ps (spM X.K X.mg n m)) (hr : Room k X.A) (hg : Gl X x)
    (hm : X.mg x = some (.ref f)) (hk : PySem.W.keepIn X.K (.ref f) = true) (hb : Binds X.K fd ps []) (tk : Takes X W) (ha : FA X W (e :: es) mr) (hl : (e :: es).length = n := by rfl) (hdb : (x == ("__debug__" : Str)) = false := by decide)
    (he : starEach (e :: es) X.env = (false, eval e X.env) :: starEach es X.env := by rfl) (hpl : (backTo pos (starEach es X.env)).any (·.1) = false := by rfl) : FE X W (.Call (.Name x p) (e :: es) [] pos) (eA (fun vs S => if vs.length = n then m vs S else .bad) mr) :=
  ⟨PE.wk (pe_callS F hr hg hm hk hb (passAt tk) ha.run hdb he hpl) fun σ H Q h => by
    obtain ⟨η, S, σ0, hR, hS, p⟩ := h
    refine ⟨η, S, σ0, hR, hS, (Po.bind (rel := VsR) p).imp fun u H1 ⟨η1, S1, v, e1, hR1, r1, p1⟩ => ?_⟩
    by_cases hv : v.length = n
    · rw [if_pos hv] at p1
      refine ⟨by rw [← r1.length]; exact hv, η1, S1, v, hR1, r1, ?_⟩
      cases e : m v S1 with
      | ok w S2 => rw [e] at p1; exact p1
      | exc c S2 => rw [e] at p1; exact p1
      | bad => rw [e] at p1; exact p1
    · rw [if_neg hv] at p1; exact p1.elim⟩
/-! methods of built-in types -/
def eM0 (T : V → Sto → Bool) (m : V → List V → Sto → R V) (mo : St → Sto → R V) : St → Sto → R V := fun σ S => (mo σ S).bind fun x S1 => if T x S1 then m x [] S1 else .bad
def eM (T : V → Sto → Bool) (m : V → List V → Sto → R V) (mo : St → Sto → R V) (mr : St → Sto → R (List V)) : St → Sto → R V := fun σ S => (mo σ S).bind fun x S1 => if T x S1 then (mr σ S1).bind fun xs S2 => m x xs S2 else .bad
def MtM (X : Cx) (r : V → List V → Hp → VK → Prop) (m : V → List V → Sto → R V) : Prop := ∀ W σ η S H x u xs us Q, Rel X.K η S H → VR η x u → VsR η xs us → Po X.K X.mg W σ VR η H (m x xs S) Q → r u us H Q
def TyM (X : Cx) (T : String) (t : V → Sto → Bool) : Prop := ∀ η S H x u, Rel X.K η S H → VR η x u → t x S = true → tyV X.K T u H
theorem fe_bm0 {o : Expr} {name : Str} {apos cpos : Pos} {T id : String} {r : V → List V → Hp → VK → Prop} {t : V → Sto → Bool} {m : V → List V → Sto → R V} {mo : St → Sto → R V} (pa : PlainAttrs T) (slot : Slot T name id) (hty : typeOf (.builtin id) = pure (.type "method_descriptor")) (hm : MtR X id r)
    (ht : TyM X T t) (hmm : MtM X r m) (ho : FE X W o mo) (hbase : attributeBase o name X.env (eval o X.env) = eval o X.env := by rfl) (hline : (apos.endLine == cpos.line) = true := by rfl) : FE X W (.Call (.Attribute o name apos) [] [] cpos) (eM0 t m mo) :=
  ⟨PE.wk (pe_bm0 pa slot hty hm ho.run hbase hline) fun σ H Q h => by
    obtain ⟨η, S, σ0, hR, hS, p⟩ := h
    refine ⟨η, S, σ0, hR, hS, (Po.bind (rel := VR) p).imp fun u H1 ⟨η1, S1, v, e1, hR1, r1, p1⟩ => ?_⟩
    cases e : t v S1 with
    | false => rw [e] at p1; exact p1.elim
    | true =>
      rw [e] at p1
      exact ⟨ht η1 S1 H1 v u hR1 r1 e, hmm W σ η1 S1 H1 v u [] [] Q hR1 r1 .nil p1⟩⟩
theorem fe_bm {o : Expr} {es : List Expr} {name : Str} {apos cpos : Pos} {T id : String} {r : V → List V → Hp → VK → Prop} {t : V → Sto → Bool} {m : V → List V → Sto → R V} {mo : St → Sto → R V} {mr : St → Sto → R (List V)} (pa : PlainAttrs T) (slot : Slot T name id) (hty : typeOf (.builtin id) = pure (.type "method_descriptor")) (hm : MtR X id r)
    (ht : TyM X T t) (hmm : MtM X r m) (ho : FE X W o mo) (ha : FA X W (e :: es) mr)
    (hbase : attributeBase o name X.env (eval o X.env) = eval o X.env := by rfl)
    (hfew : ((backTo cpos (starEach (e :: es) X.env)).all (fun x => !x.1) && (backToKw cpos (keywordEach [] X.env)).all (fun x => x.1.isSome)
      && decide ((e :: es).length + ([] : List Keyword).length + (if ([] : List Keyword).isEmpty then 0 else 1) < 30)) = true := by rfl)
    (hline : (apos.endLine == cpos.line) = true := by rfl) (hs : starEach (e :: es) X.env = (false, eval e X.env) :: starEach es X.env := by rfl) (hplain : (backTo cpos (starEach es X.env)).any (·.1) = false := by rfl) : FE X W (.Call (.Attribute o name apos) (e :: es) [] cpos) (eM t m mo mr) :=
  ⟨PE.wk (pe_bm pa slot hty hm ho.run ha.run hbase hfew hline hs hplain) fun σ H Q h => by
    obtain ⟨η, S, σ0, hR, hS, p⟩ := h
    refine ⟨η, S, σ0, hR, hS, (Po.bind (rel := VR) p).imp fun u H1 ⟨η1, S1, v, e1, hR1, r1, p1⟩ => ?_⟩
    cases e : t v S1 with
    | false => rw [e] at p1; exact p1.elim
    | true =>
      rw [e] at p1
      refine ⟨ht η1 S1 H1 v u hR1 r1 e, η1, S1, σ0, hR1, hS.mono e1.1, (Po.bind (rel := VsR) p1).imp fun us H2 ⟨η2, S2, vs, e2, hR2, r2, p2⟩ => ?_⟩
      exact hmm W σ η2 S2 H2 v u vs us Q hR2 (r1.mono e2.1) r2 p2⟩
/-! tests -/
def tV (m : St → Sto → R V) : St → Sto → R Bool := fun σ S => (m σ S).bind fun v S1 => match v with
  | .bl b => .ok b S1
  | _ => .bad
theorem ft_v (h : FE X W e m) (he : ∀ whole, isTrue e X.env whole = (do let v ← whole; standAt e.pos; holding [v] (truthy v)) := by intro _; rfl) : FT X W e (tV m) := ⟨PT.wk (pt_val h.run he) fun σ H Q h => by
  obtain ⟨η, S, σ0, hR, hS, p⟩ := h
  refine ⟨η, S, σ0, hR, hS, (Po.bind (rel := VR) p).imp fun u H1 ⟨η1, S1, v, e1, hR1, r1, p1⟩ => ?_⟩
  cases v with
  | bl c => exact ⟨c, r1, p1.now hR1 rfl⟩
  | _ => exact p1.elim⟩
variable {tA tB' : St → Sto → R Bool} {rest : List Expr}
def tAn (t u : St → Sto → R Bool) : St → Sto → R Bool := fun σ S => (t σ S).bind fun c S1 => if c = true then u σ S1 else .ok false S1
def tO (t u : St → Sto → R Bool) : St → Sto → R Bool := fun σ S => (t σ S).bind fun c S1 => if c = true then .ok true S1 else u σ S1
def tN (t : St → Sto → R Bool) : St → Sto → R Bool := fun σ S => (t σ S).bind fun c S1 => .ok (!c) S1
theorem fw_and1 (ha : FT X W a tA) : FW X W (.BoolOp .And [a] pos) tA := ⟨pw_and1 ha.run⟩
theorem fw_or1 (ha : FT X W a tA) : FW X W (.BoolOp .Or [a] pos) tA := ⟨pw_or1 ha.run⟩
theorem fw_and (ha : FT X W a tA) (hb : FW X W (.BoolOp .And (b :: rest) pos) tB') : FW X W (.BoolOp .And (a :: b :: rest) pos) (tAn tA tB') := ⟨PW.wk (pw_and ha.run hb.run) fun σ H Q h => by
  obtain ⟨η, S, σ0, hR, hS, p⟩ := h
  refine ⟨η, S, σ0, hR, hS, (Po.bind (rel := fun _ a b => b = a) p).imp fun u H1 ⟨η1, S1, v, e1, hR1, r1, p1⟩ => ?_⟩
  subst r1
  cases u with
  | true => exact ⟨η1, S1, σ0, hR1, hS.mono e1.1, p1⟩
  | false => exact p1.now hR1 rfl⟩
theorem fw_or (ha : FT X W a tA) (hb : FW X W (.BoolOp .Or (b :: rest) pos) tB') : FW X W (.BoolOp .Or (a :: b :: rest) pos) (tO tA tB') := ⟨PW.wk (pw_or ha.run hb.run) fun σ H Q h => by
  obtain ⟨η, S, σ0, hR, hS, p⟩ := h
  refine ⟨η, S, σ0, hR, hS, (Po.bind (rel := fun _ a b => b = a) p).imp fun u H1 ⟨η1, S1, v, e1, hR1, r1, p1⟩ => ?_⟩
  subst r1
  cases u with
  | true => exact p1.now hR1 rfl
  | false => exact ⟨η1, S1, σ0, hR1, hS.mono e1.1, p1⟩⟩
theorem FW.ft (h : FW X W e tA) : FT X W e tA := ⟨h.run.pt⟩
theorem ft_not (ha : FT X W a tA) : FT X W (.UnaryOp .Not a pos) (tN tA) := ⟨PT.wk (pt_not ha.run) fun σ H Q h => by
  obtain ⟨η, S, σ0, hR, hS, p⟩ := h
  refine ⟨η, S, σ0, hR, hS, (Po.bind (rel := fun _ a b => b = a) p).imp fun u H1 ⟨η1, S1, v, e1, hR1, r1, p1⟩ => ?_⟩
  subst r1
  exact p1.now hR1 rfl⟩
/-! and, or, not as values -/
def eAn (t u : St → Sto → R V) : St → Sto → R V := fun σ S => (t σ S).bind fun x S1 => match x with
  | .bl true => u σ S1
  | .bl false => .ok (.bl false) S1
  | _ => .bad
def eOr (t u : St → Sto → R V) : St → Sto → R V := fun σ S => (t σ S).bind fun x S1 => match x with
  | .bl true => .ok (.bl true) S1
  | .bl false => u σ S1
  | _ => .bad
def eNo (t : St → Sto → R V) : St → Sto → R V := fun σ S => (t σ S).bind fun x S1 => match x with
  | .bl c => .ok (.bl (!c)) S1
  | _ => .bad
theorem fe_one {op} (h : FE X W a ma) : FE X W (.BoolOp op [a] pos) ma := ⟨pe_one h.run⟩
theorem fe_and (ha : FE X W a ma) (hb : FE X W (.BoolOp .And (b :: rest) pos) mb) : FE X W (.BoolOp .And (a :: b :: rest) pos) (eAn ma mb) := ⟨PE.wk (pe_and ha.run hb.run) fun σ H Q h => by
  obtain ⟨η, S, σ0, hR, hS, p⟩ := h
  refine ⟨η, S, σ0, hR, hS, (Po.bind (rel := VR) p).imp fun u H1 ⟨η1, S1, v, e1, hR1, r1, p1⟩ => ?_⟩
  cases v with
  | bl c =>
    refine ⟨c, r1, ?_⟩
    cases c with
    | true => exact ⟨η1, S1, σ0, hR1, hS.mono e1.1, p1⟩
    | false => exact p1.now hR1 rfl
  | _ => exact p1.elim⟩
theorem fe_or (ha : FE X W a ma) (hb : FE X W (.BoolOp .Or (b :: rest) pos) mb) : FE X W (.BoolOp .Or (a :: b :: rest) pos) (eOr ma mb) := ⟨PE.wk (pe_or ha.run hb.run) fun σ H Q h => by
  obtain ⟨η, S, σ0, hR, hS, p⟩ := h
  refine ⟨η, S, σ0, hR, hS, (Po.bind (rel := VR) p).imp fun u H1 ⟨η1, S1, v, e1, hR1, r1, p1⟩ => ?_⟩
  cases v with
  | bl c =>
    refine ⟨c, r1, ?_⟩
    cases c with
    | true => exact p1.now hR1 rfl
    | false => exact ⟨η1, S1, σ0, hR1, hS.mono e1.1, p1⟩
  | _ => exact p1.elim⟩
theorem fe_not (ha : FE X W a ma) : FE X W (.UnaryOp .Not a pos) (eNo ma) := ⟨PE.wk (pe_not ha.run) fun σ H Q h => by
  obtain ⟨η, S, σ0, hR, hS, p⟩ := h
  refine ⟨η, S, σ0, hR, hS, (Po.bind (rel := VR) p).imp fun u H1 ⟨η1, S1, v, e1, hR1, r1, p1⟩ => ?_⟩
  cases v with
  | bl c => exact ⟨c, r1, p1.now hR1 rfl⟩
  | _ => exact p1.elim⟩
def eIf (t : St → Sto → R Bool) (ma mb : St → Sto → R V) : St → Sto → R V := fun σ S => (t σ S).bind fun c S1 => if c = true then ma σ S1 else mb σ S1
theorem fe_if {c : Expr} {t : St → Sto → R Bool} (hc : FT X W c t) (ha : FE X W a ma) (hb : FE X W b mb) : FE X W (.IfExp c a b pos) (eIf t ma mb) := ⟨PE.wk (pe_ifExp hc.run ha.run hb.run) fun σ H Q h => by
  obtain ⟨η, S, σ0, hR, hS, p⟩ := h
  refine ⟨η, S, σ0, hR, hS, (Po.bind (rel := fun _ a b => b = a) p).imp fun u H1 ⟨η1, S1, v, e1, hR1, r1, p1⟩ => ?_⟩
  subst r1
  cases u with
  | true => exact ⟨η1, S1, σ0, hR1, hS.mono e1.1, p1⟩
  | false => exact ⟨η1, S1, σ0, hR1, hS.mono e1.1, p1⟩⟩
/-- a < b < c -/
def eCh (m m' : V → V → Sto → R V) (ma mb mc : St → Sto → R V) : St → Sto → R V := fun σ S => (ma σ S).bind fun x S1 => (mb σ S1).bind fun y S2 => (m x y S2).bind fun z S3 => match z with
  | .bl true => (mc σ S3).bind fun w S4 => m' y w S4
  | .bl false => .ok (.bl false) S3
  | _ => .bad
theorem lf_ch {mc : St → Sto → R V} {r r' : R2} {m m' : V → V → Sto → R V} (hm : OpM X r m) (hm' : OpM X r' m') {σ : St} {H : Hp} {Q : VK} (h : lfE X W (eCh m m' ma mb mc) σ H Q) : tChain r r' (lfE X W ma) (lfE X W mb) (lfE X W mc) σ H Q := by
    obtain ⟨η, S, σ0, hR, hS, p⟩ := h
    refine ⟨η, S, σ0, hR, hS, (Po.bind (rel := VR) p).imp fun u H1 ⟨η1, S1, v, e1, hR1, r1, p1⟩ => ?_⟩
    refine ⟨η1, S1, σ0, hR1, hS.mono e1.1, (Po.bind (rel := VR) p1).imp fun u2 H2 ⟨η2, S2, v2, e2, hR2, r2, p2⟩ => ?_⟩
    refine hm W σ η2 S2 H2 v v2 u u2 _ hR2 (r1.mono e2.1) r2 ((Po.bind (rel := VR) p2).imp fun u3 H3 ⟨η3, S3, v3, e3, hR3, r3, p3⟩ => ?_)
    cases v3 with
    | bl k =>
      refine ⟨k, r3, ?_⟩
      cases k with
      | true =>
        refine ⟨η3, S3, σ0, hR3, hS.mono (e1.1.trans (e2.1.trans e3.1)), (Po.bind (rel := VR) p3).imp fun u4 H4 ⟨η4, S4, v4, e4, hR4, r4, p4⟩ => ?_⟩
        exact hm' W σ η4 S4 H4 v2 v4 u2 u4 Q hR4 (r2.mono (e3.1.trans e4.1)) r4 p4
      | false => exact p3.now hR3 rfl
    | _ => exact p3.elim
theorem fe_chain {c : Expr} {mc : St → Sto → R V} {op op' : CmpOp} {r r' : R2} {m m' : V → V → Sto → R V} (ho : OpR X (compareOp op) r) (hm : OpM X r m) (ho' : OpR X (compareOp op') r') (hm' : OpM X r' m') (ha : FE X W a ma) (hb : FE X W b mb) (hc : FE X W c mc) (hmk : lastMarks [op, op'] [b, c] = false := by with_unfolding_all rfl) : FE X W (.Compare a [op, op'] [b, c] pos) (eCh m m' ma mb mc) :=
  ⟨PE.wk (pe_chain ho ho' ha.run hb.run hc.run hmk) fun σ H Q h => lf_ch hm hm' h⟩
end
end Fx
/-! Fx: statements, loops, comprehensions, defs. -/
namespace Fx
open PySem PySem.Spec L2
open PyProof.Rows hiding St
variable {K : PySem.W.Frag} {η : List Addr} {S : Sto} {H : Hp}
section
variable {X : Cx} {W : WX} {e : Expr} {m : St → Sto → R V} {pos : Pos} {st : Stmt} {rest : List Stmt} {c c' : St → Sto → R Fl}
theorem PoS.now {D : Ends} {σ σ1 : St} (p : PoS X W D η H (.ok (.nx σ) S)) (r : Rel X.K η S H) (h : SR η σ σ1) : D.nx σ1 H := p η H σ1 (Ext.refl _ _) r h
/-- other ends -/
theorem PoS.conv {D D' : Ends} {r : R Fl} {k : Fl → Sto → R Fl} (p : PoS X W D η H (match r with | .ok f S' => k f S' | r => r))
    (h : ∀ f S' η' H', Ext η H η' H' → Rel X.K η' S' H' → PoS X W D η' H' (k f S') → PoS X W D' η' H' (.ok f S')) : PoS X W D' η H r := by
  cases r with
  | ok f S' =>
    cases f with
    | nx σ => exact fun η' H' σ1 e' r q => h _ S' η' H' e' r (PoS.mono e' p) η' H' σ1 (Ext.refl _ _) r q
    | rt σ => exact fun η' H' σ1 e' r q => h _ S' η' H' e' r (PoS.mono e' p) η' H' σ1 (Ext.refl _ _) r q
    | bk σ => exact fun η' H' σ1 e' r q => h _ S' η' H' e' r (PoS.mono e' p) η' H' σ1 (Ext.refl _ _) r q
    | ct σ => exact fun η' H' σ1 e' r q => h _ S' η' H' e' r (PoS.mono e' p) η' H' σ1 (Ext.refl _ _) r q
    | rs c σ => exact fun η' H' σ1 C e' r q => h _ S' η' H' e' r (PoS.mono e' p) η' H' σ1 C (Ext.refl _ _) r q
  | exc c S' => exact p
  | bad => exact p
def sNx : St → Sto → R Fl := fun σ S => .ok (.nx σ) S
theorem fss_nil : FSs X W [] sNx := ⟨PSs.wk pss_nil fun D σ H h => by
  obtain ⟨η, S, σ0, hR, hS, p⟩ := h
  exact p.now hR hS⟩
theorem fss_cons (h1 : FS X W st c) (h2 : FSs X W rest c') : FSs X W (st :: rest) (sSq c c') := ⟨PSs.wk (pss_cons h1.run h2.run) fun D σ H h => by
  obtain ⟨η, S, σ0, hR, hS, p⟩ := h
  refine ⟨η, S, σ0, hR, hS, PoS.conv (D := D) (k := fun f S' => match f with | .nx σ1 => c' σ1 S' | f => .ok f S') ?_ fun f S' η' H' e' r q => ?_⟩
  · unfold sSq at p
    cases hc : c σ0 S with
    | ok f S' => rw [hc] at p; cases f <;> exact p
    | exc c S' => rw [hc] at p; exact p
    | bad => rw [hc] at p; exact p
  · cases f with
    | nx σ1 => exact fun η2 H2 σ2 e2 r2 s2 => ⟨η2, S', σ1, r2, s2, PoS.mono e2 q⟩
    | rt v => exact q
    | bk σ => exact q
    | ct σ => exact q
    | rs c σ => exact q⟩
theorem fss_one (h1 : FS X W st c) : FSs X W [st] c := ⟨PSs.wk (pss_one h1.run) fun D σ H h => h⟩
theorem fs_pass : FS X W (.Pass pos) sNx := ⟨PS.wk ps_pass fun D σ H h => by
  obtain ⟨η, S, σ0, hR, hS, p⟩ := h
  exact p.now hR hS⟩
def sBk : St → Sto → R Fl := fun σ S => .ok (.bk σ) S
def sCt : St → Sto → R Fl := fun σ S => .ok (.ct σ) S
theorem fs_break : FS X W (.Break pos) sBk := ⟨PS.wk ps_break fun D σ H h => by
  obtain ⟨η, S, σ0, hR, hS, p⟩ := h
  exact p η H σ (Ext.refl _ _) hR hS⟩
theorem fs_continue : FS X W (.Continue pos) sCt := ⟨PS.wk ps_continue fun D σ H h => by
  obtain ⟨η, S, σ0, hR, hS, p⟩ := h
  exact p η H σ (Ext.refl _ _) hR hS⟩
def sRet (m : St → Sto → R V) : St → Sto → R Fl := fun σ S => sE (m σ S) σ fun v S1 => .ok (.rt v) S1
theorem fs_ret (h : FE X W e m) : FS X W (.Return (some e) pos) (sRet m) := ⟨PS.wk (ps_ret h.run) fun D σ H h => by
  obtain ⟨η, S, σ0, hR, hS, p⟩ := h
  refine ⟨η, S, σ0, hR, hS, (PoS.expr (rel := VR) hS p).imp fun u H1 ⟨η1, S1, v, e1, hR1, r1, p1⟩ => ?_⟩
  exact p1 η1 H1 u (Ext.refl _ _) hR1 r1⟩
def sRetN : St → Sto → R Fl := fun σ S => .ok (.rt .non) S
theorem fs_retN : FS X W (.Return none pos) sRetN := ⟨PS.wk ps_retN fun D σ H h => by
  obtain ⟨η, S, σ0, hR, hS, p⟩ := h
  exact p η H .non (Ext.refl _ _) hR rfl⟩
def sEx (m : St → Sto → R V) : St → Sto → R Fl := fun σ S => sE (m σ S) σ fun _ S1 => .ok (.nx σ) S1
theorem fs_expr (h : FE X W e m) (hs : swapsWith e none pos.line X.env = pure false := by rfl) : FS X W (.Expr e pos) (sEx m) := ⟨PS.wk (ps_expr h.run hs) fun D σ H h => by
  obtain ⟨η, S, σ0, hR, hS, p⟩ := h
  refine ⟨η, S, σ0, hR, hS, (PoS.expr (rel := VR) hS p).imp fun u H1 ⟨η1, S1, v, e1, hR1, r1, p1⟩ => ?_⟩
  exact p1.now hR1 (hS.mono e1.1)⟩
def sIf (t : St → Sto → R Bool) (a b : St → Sto → R Fl) : St → Sto → R Fl := fun σ S => sE (t σ S) σ fun k S1 => if k = true then a σ S1 else b σ S1
theorem fs_if {cnd : Expr} {as bs : List Stmt} {t : St → Sto → R Bool} {a b : St → Sto → R Fl} (hc : FT X W cnd t) (ha : FSs X W as a) (hb : FSs X W bs b) : FS X W (.If cnd as bs pos) (sIf t a b) := ⟨PS.wk (ps_if hc.run ha.run hb.run) fun D σ H h => by
  obtain ⟨η, S, σ0, hR, hS, p⟩ := h
  refine ⟨η, S, σ0, hR, hS, (PoS.expr (rel := fun _ a b => b = a) hS p).imp fun u H1 ⟨η1, S1, v, e1, hR1, r1, p1⟩ => ?_⟩
  subst r1
  cases u with
  | true => exact ⟨η1, S1, σ0, hR1, hS.mono e1.1, p1⟩
  | false => exact ⟨η1, S1, σ0, hR1, hS.mono e1.1, p1⟩⟩
theorem SR.set {σ σ1 : St} {v u : V} (i : Nat) (h : SR η σ σ1) (r : VR η v u) : SR η (σ.set i (some v)) (σ1.set i (some u)) := pset (F := OR η) (x := some v) (u := some u) r i h
theorem SR.wipe {σ σ1 : St} (h : SR η σ σ1) : ∀ ws, SR η (L2.wipe σ ws) (L2.wipe σ1 ws)
  | [] => h
  | i :: ws => pset (F := OR η) (x := none) (u := none) trivial i (SR.wipe h ws)
/-- the store's slots forgotten -/
theorem SR.drop {σ σ1 : St} (h : SR η σ σ1) : ∀ ws, SR η (L2.wipe σ ws) σ1
  | [] => h
  | i :: ws => by
    have q := SR.drop h ws
    show SR η ((L2.wipe σ ws).set i none) σ1
    have hl : ∀ {xs : St} {us : St} (i : Nat), SR η xs us → SR η (xs.set i none) us := by
      intro xs us i r
      induction r generalizing i with
      | nil => exact .nil
      | cons r t ih =>
        cases i with
        | zero => exact .cons trivial t
        | succ i => exact .cons r (ih i)
    exact hl i q
def sSet (i : Nat) (m : St → Sto → R V) : St → Sto → R Fl := fun σ S => sE (m σ S) σ fun v S1 => .ok (.nx (σ.set i (some v))) S1
theorem fs_set {i : Nat} {x : Str} {pos' : Pos} (hN : X.N.Nodup) (hi : X.N[i]? = some x) (hx : Loc X.env.scope x) (he : FE X W e m) (hs : swapsWith e (some (.Name x pos')) pos.line X.env = pure false := by rfl) (hf : X.fn x = true ∨ X.env.scope.names.lookup x = some .local := by first | exact .inl rfl | exact .inr rfl | assumption) :
    FS X W (.Assign [.Name x pos'] e pos) (sSet i m) := ⟨PS.wk (ps_set hN hi hx he.run hs hf) fun D σ H h => by
  obtain ⟨η, S, σ0, hR, hS, p⟩ := h
  refine ⟨η, S, σ0, hR, hS, (PoS.expr (rel := VR) hS p).imp fun u H1 ⟨η1, S1, v, e1, hR1, r1, p1⟩ => ?_⟩
  exact p1.now hR1 ((hS.mono e1.1).set i r1)⟩
/-! targets -/
def TgM (X : Cx) (W : WX) (g : TG) (t : V → St → Sto → R St) : Prop := ∀ η S H σ0 σ x u Q, Rel X.K η S H → SR η σ0 σ → VR η x u → Po X.K X.mg W σ SR η H (t x σ0 S) Q → g u σ H Q
structure FG (X : Cx) (W : WX) (tg : Expr) (t : V → St → Sto → R St) : Prop where
  run : ∃ g, PG X tg g ∧ TgM X W g t
def gN (i : Nat) : V → St → Sto → R St := fun v σ S => .ok (σ.set i (some v)) S
theorem fg_name {i : Nat} {x : Str} (hN : X.N.Nodup) (hi : X.N[i]? = some x) (hx : Loc X.env.scope x) (hf : X.fn x = true ∨ X.env.scope.names.lookup x = some .local := by first | exact .inl rfl | exact .inr rfl | assumption) : FG X W (.Name x pos) (gN i) :=
  ⟨_, pg_name hN hi hx hf, fun η S H σ0 σ x u Q hR hS r p => p.now hR (hS.set i r)⟩
/-- a tuple of names -/
def gTs (is : List Nat) (xs : List V) (σ : St) : St := (is.zip xs).foldl (fun σ p => σ.set p.1 (some p.2)) σ
def rdT (v : V) (S : Sto) : Option (List V) := match v with
  | .ref n => match S[n]? with
    | some (.tup xs) => some xs
    | _ => none
  | _ => none
def rdL (v : V) (S : Sto) : Option (List V) := match v with
  | .ref n => match S[n]? with
    | some (.lst xs) => some xs
    | some (.frl xs) => some xs
    | _ => none
  | _ => none
theorem rdT_ok {v u : V} {xs : List V} (h : rdT v S = some xs) (r : Rel K η S H) (q : VR η v u) : ∃ a us, u = .ref a ∧ H a = some (.tup us) ∧ VsR η xs us ∧ xs.length ≤ sizeLine := by
  cases v with
  | ref n =>
    obtain ⟨a, e, rfl⟩ := q
    unfold rdT at h
    cases ho : S[n]? with
    | none => simp [ho] at h
    | some o =>
      cases o with
      | tup ys =>
        simp [ho] at h
        subst h
        obtain ⟨z, us, e2, p⟩ := r.ob n a _ e ho
        exact ⟨a, us, rfl, e2, p, z⟩
      | _ => simp [ho] at h
  | _ => cases h
theorem SqL.side {K : PySem.W.Frag} {a : Addr} {us : List V} (h : SqL K (fun _ => none) a us) (H : Hp) : SqL K H a us := by
  rcases h with (h | ⟨o, h⟩) | h
  · cases h
  · cases h
  · exact .inr h
theorem rdL_ok {v u : V} {xs : List V} (h : rdL v S = some xs) (r : Rel K η S H) (q : VR η v u) : ∃ a us, u = .ref a ∧ SqL K H a us ∧ VsR η xs us ∧ xs.length ≤ sizeLine := by
  cases v with
  | ref n =>
    obtain ⟨a, e, rfl⟩ := q
    unfold rdL at h
    cases ho : S[n]? with
    | none => simp [ho] at h
    | some o =>
      cases o with
      | lst ys =>
        simp [ho] at h
        subst h
        obtain ⟨z, us, e2, p⟩ := r.ob n a _ e ho
        exact ⟨a, us, rfl, SqL.of e2, p, z⟩
      | frl ys =>
        simp [ho] at h
        subst h
        obtain ⟨z, us, e2, p⟩ := r.ob n a _ e ho
        refine ⟨a, us, rfl, ?_, p, z⟩
        rcases e2 with ⟨o, e2⟩ | e2
        · exact .inl (.inr ⟨o, e2⟩)
        · exact SqL.side e2 H
      | _ => simp [ho] at h
  | _ => cases h
def gT (is : List Nat) : V → St → Sto → R St := fun v σ S => match rdT v S with
  | some xs => if xs.length = is.length then .ok (gTs is xs σ) S else .bad
  | none => .bad
/-- a row of names -/
structure FGs (X : Cx) (ts : List Expr) (is : List Nat) (g : TGs) : Prop where
  pgs : PGs X ts g
  mono : ∀ (us : List V) (σ : St) (H : Hp) (Q Q' : St → Hp → Prop), (∀ a b, Q a b → Q' a b) → g us σ H Q → g us σ H Q'
  run : ts.length = is.length ∧ ∀ (us : List V) (σ : St) (H : Hp) Q, us.length = is.length → Q (gTs is us σ) H → g us σ H Q
theorem fgs_nil : FGs X [] [] gNil := ⟨pgs_nil, fun us σ H Q Q' m h => ⟨h.1, m _ _ h.2⟩, rfl, fun us σ H Q hl q => by
  cases us with
  | nil => exact ⟨rfl, q⟩
  | cons _ _ => cases hl⟩
theorem fgs_cons {i : Nat} {is : List Nat} {x : Str} {ts : List Expr} {g : TGs} (hN : X.N.Nodup) (hi : X.N[i]? = some x) (hx : Loc X.env.scope x) (h : FGs X ts is g) (hf : X.fn x = true ∨ X.env.scope.names.lookup x = some .local := by first | exact .inl rfl | exact .inr rfl | assumption) : FGs X (.Name x pos :: ts) (i :: is) (gCons (gName i) g) := by
  obtain ⟨h2, h3⟩ := h.run
  refine ⟨pgs_cons (pg_name hN hi hx hf) h.pgs, fun us σ H Q Q' mm ⟨v, r, e, q⟩ => ⟨v, r, e, h.mono _ _ _ _ _ mm q⟩, by simp [h2], fun us σ H Q hl q => ?_⟩
  cases us with
  | nil => cases hl
  | cons u us => exact ⟨u, us, rfl, h3 us _ H Q (by simpa using hl) q⟩
theorem SR.sets {σ0 σ : St} : ∀ {is : List Nat} {xs us : List V}, SR η σ0 σ → VsR η xs us → SR η (gTs is xs σ0) (gTs is us σ) := by
  intro is
  induction is generalizing σ0 σ with
  | nil => intro xs us h _; exact h
  | cons i is ih =>
    intro xs us h r
    cases r with
    | nil => exact h
    | cons r t => exact ih (h.set i r) t
theorem fg_tup {ts : List Expr} {is : List Nat} {k : Nat} {g : TGs} (hc : X.calm = true) (h : FGs X ts is g) (hn : (assignEach ts X.env).length = is.length := by rfl) (hst : (assignEach ts X.env).findIdx? (·.1) = none := by rfl) : FG X W (.Tuple ts k pos) (gT is) := by
  obtain ⟨h2, h3⟩ := h.run
  refine ⟨_, pg_tup (n := is.length) hc h.pgs hn hst, fun η S H σ0 σ x u Q hR hS r p => ?_⟩
  unfold gT at p
  cases e : rdT x S with
  | none => rw [e] at p; exact p.elim
  | some xs =>
    rw [e] at p
    dsimp only at p
    by_cases hl : xs.length = is.length
    · rw [if_pos hl] at p
      obtain ⟨a, us, rfl, e2, r2, z⟩ := rdT_ok e hR r
      refine ⟨a, us, rfl, SqT.of e2, by rw [← r2.length]; exact hl, h3 us σ H Q (by rw [← r2.length]; exact hl) ?_⟩
      exact p.now hR (SR.sets hS r2)
    · rw [if_neg hl] at p; exact p.elim
def sAs (t : V → St → Sto → R St) (m : St → Sto → R V) : St → Sto → R Fl := fun σ S => sE (m σ S) σ fun v S1 => sE (t v σ S1) σ fun σ2 S2 => .ok (.nx σ2) S2
theorem fs_asg {tg e : Expr} {t : V → St → Sto → R St} (he : FE X W e m) (hg : FG X W tg t) (hs : swapsWithSole [tg] e pos.line X.env = pure false := by rfl) (hw : swappedStores [tg] e X.env = pure none := by rfl) (h1' : (assignEach [tg] X.env).map (·.2) = [assign tg X.env] := by rfl) : FS X W (.Assign [tg] e pos) (sAs t m) := by
  obtain ⟨g, h1, h2⟩ := hg.run
  refine ⟨PS.wk (ps_asg he.run h1 hs hw h1') fun D σ H h => ?_⟩
  obtain ⟨η, S, σ0, hR, hS, p⟩ := h
  refine ⟨η, S, σ0, hR, hS, (PoS.expr (rel := VR) hS p).imp fun u H1 ⟨η1, S1, v, e1, hR1, r1, p1⟩ => ?_⟩
  refine h2 η1 S1 H1 σ0 σ v u _ hR1 (hS.mono e1.1) r1 ((PoS.expr (rel := SR) (hS.mono e1.1) p1).imp fun σ2 H2 ⟨η2, S2, v2, e2, hR2, r2, p2⟩ => ?_)
  exact p2.now hR2 r2
end
end Fx
/-! Fx: what is walked, for, while, comprehensions. -/
namespace Fx
open PySem PySem.Spec L2
open PyProof.Rows hiding St
variable {K : PySem.W.Frag} {η : List Addr} {S : Sto} {H : Hp}
/-- an item that is walked: a value, or a new tuple of values -/
inductive Itm where
  | one (v : V)
  | many (vs : List V)
  /-- a key of a dict by tuples -/
  | key (ks : List Key)
abbrev AI := List Itm × (Sto → Bool)
def YldR (η : List Addr) (it : Itm) (H : Hp) (x : V) (H' : Hp) : Prop := match it with
  | .one v => H' = H ∧ VR η v x
  | .many vs => ∃ T us, x = .ref T ∧ H T = none ∧ H' = upd H T (.tup us) ∧ VsR η vs us
  | .key ks => H' = H ∧ ∃ q, x = .ref q ∧ H q = some (.tup (ks.map kV))
theorem VsR.keys (η : List Addr) : ∀ ks : List Key, VsR η (ks.map kV) (ks.map kV)
  | [] => .nil
  | k :: ks => .cons (VR.closed (by cases k <;> rfl)) (VsR.keys η ks)
structure JR (K : PySem.W.Frag) (η : List Addr) (a : AI) (J : It) : Prop where
  len : a.1.length ≤ sizeLine
  go : ∀ η' S H i it, η <+: η' → Rel K η' S H → a.2 S = true → a.1[i]? = some it → J.go i H ∧ ∀ x H', J.yld i H x H' → YldR η' it H x H'
  stop : ∀ η' S H, η <+: η' → Rel K η' S H → a.2 S = true → J.stop a.1.length H
section
variable (X : Cx) (W : WX)
def lfI (m : St → Sto → R AI) : TI := fun σ H Q => ∃ η S σ0, Rel X.K η S H ∧ SR η σ0 σ ∧ Po X.K X.mg W σ (JR X.K) η H (m σ0 S) Q
structure FI (tg iter : Expr) (m : St → Sto → R AI) : Prop where
  run : ∃ wi, PI X tg iter wi ∧ ∀ σ H Q, lfI X W m σ H Q → wi σ H Q
/-- a target that takes items, into the slots is -/
structure FGI (tg : Expr) (t : Itm → St → Sto → R St) (g : TG) (is : List Nat) : Prop where
  pg : PG X tg g
  mono : ∀ x σ H Q Q', (∀ a b, Q a b → Q' a b) → g x σ H Q → g x σ H Q'
  run : ∀ η S H σ0 σ it x H' Q, Rel X.K η S H → SR η σ0 σ → YldR η it H x H' → Po X.K X.mg W σ SR η H (t it σ0 S) Q → g x σ H' fun σ2 H2 => (∃ us, σ2 = gTs is us σ) ∧ Q σ2 H2
end
section
variable {X : Cx} {W : WX} {e : Expr} {m : St → Sto → R V} {pos : Pos}
/-! targets -/
def gI1 (i : Nat) : Itm → St → Sto → R St := fun it σ S => match it with
  | .one v => .ok (σ.set i (some v)) S
  | .many _ => .bad
  | .key ks => if ks.length ≤ lim then .ok (σ.set i (some (.ref S.length))) (S ++ [.tup (ks.map kV)]) else .bad
def gIT (is : List Nat) : Itm → St → Sto → R St := fun it σ S => match it with
  | .one v => gT is v σ S
  | .many vs => if vs.length = is.length then .ok (gTs is vs σ) S else .bad
  | .key _ => .bad
theorem fgi_name {i : Nat} {x : Str} (hN : X.N.Nodup) (hi : X.N[i]? = some x) (hx : Loc X.env.scope x) (hf : X.fn x = true ∨ X.env.scope.names.lookup x = some .local := by first | exact .inl rfl | exact .inr rfl | assumption) : FGI X W (.Name x pos) (gI1 i) (gName i) [i] :=
  ⟨pg_name hN hi hx hf, fun _ _ _ _ _ m h => m _ _ h, fun η S H σ0 σ it x H' Q hR hS y p => by
    cases it with
    | one v =>
      obtain ⟨rfl, r⟩ := y
      exact ⟨⟨[x], rfl⟩, p.now hR (hS.set i r)⟩
    | many vs => exact p.elim
    | key ks =>
      obtain ⟨rfl, q, rfl, hq⟩ := y
      have p : Po X.K X.mg W σ SR η H' (if ks.length ≤ lim then .ok (σ0.set i (some (.ref S.length))) (S ++ [.tup (ks.map kV)]) else .bad) Q := p
      by_cases hl : ks.length ≤ lim
      · rw [if_pos hl] at p
        exact ⟨⟨[.ref q], rfl⟩, p _ _ _ (Ext.addT hq) (hR.addT hq (VsR.keys η ks) (by rw [List.length_map]; exact hl)) ((hS.mono (List.prefix_append _ _)).set i (VR.new hR))⟩
      · rw [if_neg hl] at p; exact p.elim⟩
theorem fgi_tup {ts : List Expr} {is : List Nat} {k : Nat} {g : TGs} (hc : X.calm = true) (h : FGs X ts is g) (hn : (assignEach ts X.env).length = is.length := by rfl) (hst : (assignEach ts X.env).findIdx? (·.1) = none := by rfl) : FGI X W (.Tuple ts k pos) (gIT is) (gTup X.K is.length g) is := by
  obtain ⟨h2, h3⟩ := h.run
  refine ⟨pg_tup (n := is.length) hc h.pgs hn hst, fun x σ H Q Q' mm ⟨a, xs, e1, e2, e3, q⟩ => ⟨a, xs, e1, e2, e3, h.mono _ _ _ _ _ mm q⟩, fun η S H σ0 σ it x H' Q hR hS y p => ?_⟩
  cases it with
  | one v =>
    obtain ⟨rfl, r⟩ := y
    have p : Po X.K X.mg W σ SR η H' (gT is v σ0 S) Q := p
    unfold gT at p
    cases e : rdT v S with
    | none => rw [e] at p; exact p.elim
    | some xs =>
      rw [e] at p
      dsimp only at p
      by_cases hl : xs.length = is.length
      · rw [if_pos hl] at p
        obtain ⟨a, us, rfl, e2, r2, z⟩ := rdT_ok e hR r
        exact ⟨a, us, rfl, SqT.of e2, by rw [← r2.length]; exact hl, h3 us σ H' _ (by rw [← r2.length]; exact hl) ⟨⟨us, rfl⟩, p.now hR (SR.sets hS r2)⟩⟩
      · rw [if_neg hl] at p; exact p.elim
  | many vs =>
    obtain ⟨T, us, rfl, hT, rfl, r2⟩ := y
    have p : Po X.K X.mg W σ SR η H (if vs.length = is.length then .ok (gTs is vs σ0) S else .bad) Q := p
    by_cases hl : vs.length = is.length
    · rw [if_pos hl] at p
      exact ⟨T, us, rfl, SqT.of upd_same, by rw [← r2.length]; exact hl, h3 us σ _ _ (by rw [← r2.length]; exact hl) ⟨⟨us, rfl⟩, p η _ _ (Ext.side hT _) (hR.side hT _) (SR.sets hS r2)⟩⟩
    · rw [if_neg hl] at p; exact p.elim
  | key ks => exact p.elim
/-! a list -/
def iL (m : St → Sto → R V) : St → Sto → R AI := fun σ S => (m σ S).bind fun v S1 => match rdL v S1 with
  | some xs => .ok (xs.map .one, fun S => rdL v S == some xs) S1
  | none => .bad
theorem JR.list {v u : V} {xs : List V} (h : rdL v S = some xs) (r : Rel K η S H) (q : VR η v u) : ∃ a us, u = .ref a ∧ SqL K H a us ∧ JR K η (xs.map .one, fun S => rdL v S == some xs) (Itl K a) := by
  obtain ⟨a, us, rfl, hq, r2, z⟩ := rdL_ok h r q
  refine ⟨a, us, rfl, hq, by simpa using z, fun η' S' H' i it he hR hc hi => ?_, fun η' S' H' he hR hc => ?_⟩
  · have hc : rdL v S' = some xs := by simpa using hc
    obtain ⟨a', us', e', hq', r', z'⟩ := rdL_ok hc hR (q.mono he)
    cases e'
    have hi : (xs.map Itm.one)[i]? = some it := hi
    rw [List.getElem?_map] at hi
    cases hx : xs[i]? with
    | none => rw [hx] at hi; cases hi
    | some x =>
      rw [hx] at hi
      cases hi
      obtain ⟨w, hw, rw'⟩ := pget r' hx
      refine ⟨⟨us', w, hq', hw⟩, fun y H2 hy => ?_⟩
      obtain ⟨rfl, hy⟩ := hy
      have := (hy us' hq').symm.trans hw
      cases this
      exact ⟨rfl, rw'⟩
  · have hc : rdL v S' = some xs := by simpa using hc
    obtain ⟨a', us', e', hq', r', z'⟩ := rdL_ok hc hR (q.mono he)
    cases e'
    exact ⟨us', hq', by rw [← r'.length]; simp⟩
theorem fi_list {tg : Expr} (h : FE X W e m) : FI X W tg e (iL m) := ⟨_, pi_list h.run, fun σ H Q h => by
  obtain ⟨η, S, σ0, hR, hS, p⟩ := h
  refine ⟨η, S, σ0, hR, hS, (Po.bind (rel := VR) p).imp fun u H1 ⟨η1, S1, v, e1, hR1, r1, p1⟩ => ?_⟩
  cases e : rdL v S1 with
  | none => rw [e] at p1; exact p1.elim
  | some xs =>
    rw [e] at p1
    obtain ⟨a, us, rfl, hq, j⟩ := JR.list e hR1 r1
    exact ⟨a, rfl, ⟨us, hq⟩, p1.now hR1 j⟩⟩
/-! range -/
def rngI (lo : Int) (n : Nat) : List Itm := (List.range n).map fun (i : Nat) => .one (.int (lo + i))
theorem rngI_get {lo : Int} {n i : Nat} {it : Itm} (h : (rngI lo n)[i]? = some it) : i < n ∧ it = .one (.int (lo + i)) := by
  unfold rngI at h
  rw [List.getElem?_map] at h
  by_cases hi : i < n
  · rw [List.getElem?_range hi] at h
    exact ⟨hi, (Option.some.inj h).symm⟩
  · rw [List.getElem?_eq_none (by simpa using hi)] at h
    cases h
theorem rngI_len {lo : Int} {n : Nat} : (rngI lo n).length = n := by simp [rngI]
theorem JR.range {lo : Int} {n : Nat} (hn : n ≤ lim) : JR K η (rngI lo n, fun _ => true) (Itr lo n) :=
  ⟨by show (rngI lo n).length ≤ sizeLine; rw [rngI_len]; exact hn, fun η' S' H' i it he hR hc hi => by
    obtain ⟨h1, rfl⟩ := rngI_get hi
    exact ⟨h1, fun x H2 hy => ⟨hy.1, hy.2⟩⟩, fun η' S' H' he hR hc => by
    show n ≤ (rngI lo n).length
    rw [rngI_len]; exact Nat.le_refl _⟩
def iR1 (m : St → Sto → R (List V)) : St → Sto → R AI := fun σ S => (m σ S).bind fun vs S1 => match vs with
  | [.int j] => if j ≤ 16777216 then (if -1000000 ≤ j then .ok (rngI 0 j.toNat, fun _ => true) S1 else .bad) else .bad
  | _ => .bad
theorem VsR.int1 {j : Int} {us : List V} (h : VsR η [.int j] us) : us = [.int j] := by
  cases h with
  | cons r t => cases t; rw [show _ = V.int j from r]
theorem VsR.int2 {i j : Int} {us : List V} (h : VsR η [.int i, .int j] us) : us = [.int i, .int j] := by
  cases h with
  | cons r t => rw [VsR.int1 t, show _ = V.int i from r]
theorem fi_range1 {tg a : Expr} {ma : St → Sto → R (List V)} {p pos : Pos} (hg : Gl X "range") (hm : X.mg "range" = none) (ha : FA X W [a] ma) (hs : starEach [a] X.env = [(false, eval a X.env)] := by rfl) : FI X W tg (.Call (.Name "range" p) [a] [] pos) (iR1 ma) :=
  ⟨_, pi_range1 hg hm ha.run hs, fun σ H Q h => by
    obtain ⟨η, S, σ0, hR, hS, p⟩ := h
    refine ⟨η, S, σ0, hR, hS, (Po.bind (rel := VsR) p).imp fun us H1 ⟨η1, S1, v, e1, hR1, r1, p1⟩ => ?_⟩
    split at p1
    · rename_i j
      cases VsR.int1 r1
      split at p1
      · rename_i h1
        split at p1
        · rename_i h2
          refine ⟨j, rfl, by omega, by omega, p1.now hR1 (JR.range ?_)⟩
          show j.toNat ≤ 16777216
          omega
        · exact p1.elim
      · exact p1.elim
    · exact p1.elim⟩
def iR2 (m : St → Sto → R (List V)) : St → Sto → R AI := fun σ S => (m σ S).bind fun vs S1 => match vs with
  | [.int i, .int j] => if -1000000 ≤ i ∧ i ≤ 1000000 ∧ -1000000 ≤ j ∧ j ≤ 1000000 then .ok (rngI i (j - i).toNat, fun _ => true) S1 else .bad
  | _ => .bad
theorem fi_range2 {tg a b : Expr} {ma : St → Sto → R (List V)} {p pos : Pos} (hg : Gl X "range") (hm : X.mg "range" = none) (ha : FA X W [a, b] ma) (hs : starEach [a, b] X.env = [(false, eval a X.env), (false, eval b X.env)] := by rfl) (hs2 : starEach [b] X.env = [(false, eval b X.env)] := by rfl) : FI X W tg (.Call (.Name "range" p) [a, b] [] pos) (iR2 ma) :=
  ⟨_, pi_range2 hg hm ha.run hs hs2, fun σ H Q h => by
    obtain ⟨η, S, σ0, hR, hS, p⟩ := h
    refine ⟨η, S, σ0, hR, hS, (Po.bind (rel := VsR) p).imp fun us H1 ⟨η1, S1, v, e1, hR1, r1, p1⟩ => ?_⟩
    split at p1
    · rename_i i j
      cases VsR.int2 r1
      split at p1
      · rename_i h1
        refine ⟨i, j, rfl, ⟨by omega, by omega, by omega, by omega⟩, p1.now hR1 (JR.range ?_)⟩
        show (j - i).toNat ≤ 16777216
        omega
      · exact p1.elim
    · exact p1.elim⟩
/-! zip of two lists -/
def zipI (xs ys : List V) : List Itm := (xs.zip ys).map fun p => .many [p.1, p.2]
def iZ (m : St → Sto → R (List V)) : St → Sto → R AI := fun σ S => (m σ S).bind fun vs S1 => match vs with
  | [v, w] => match rdL v S1, rdL w S1 with
    | some xs, some ys => .ok (zipI xs ys, fun S => (rdL v S == some xs) && (rdL w S == some ys)) S1
    | _, _ => .bad
  | _ => .bad
theorem JR.zip {v w u z : V} {xs ys : List V} (h : rdL v S = some xs) (h2 : rdL w S = some ys) (r : Rel K η S H) (q : VR η v u) (q2 : VR η w z) : ∃ a b us vs, u = .ref a ∧ z = .ref b ∧ SqL K H a us ∧ SqL K H b vs ∧
    JR K η (zipI xs ys, fun S => (rdL v S == some xs) && (rdL w S == some ys)) (Itz K a b) := by
  obtain ⟨a, us, rfl, hq, r2, z1⟩ := rdL_ok h r q
  obtain ⟨b, vs, rfl, hq2, r3, z2⟩ := rdL_ok h2 r q2
  refine ⟨a, b, us, vs, rfl, rfl, hq, hq2, ?_, fun η' S' H' i it he hR hc hi => ?_, fun η' S' H' he hR hc => ?_⟩
  · show (zipI xs ys).length ≤ sizeLine
    unfold zipI
    rw [List.length_map, List.length_zip]
    omega
  · have hc : (rdL v S' == some xs && rdL w S' == some ys) = true := hc
    rw [Bool.and_eq_true] at hc
    obtain ⟨a', us', e', hq', r', z'⟩ := rdL_ok (by simpa using hc.1) hR (q.mono he)
    cases e'
    obtain ⟨b', vs', e', hq2', r2', z2'⟩ := rdL_ok (by simpa using hc.2) hR (q2.mono he)
    cases e'
    have hi : (zipI xs ys)[i]? = some it := hi
    unfold zipI at hi
    rw [List.getElem?_map] at hi
    cases hx : (xs.zip ys)[i]? with
    | none => rw [hx] at hi; cases hi
    | some p =>
      obtain ⟨x, y⟩ := p
      rw [hx] at hi
      cases hi
      rw [List.getElem?_zip_eq_some] at hx
      obtain ⟨x1, hx1, rx1⟩ := pget r' hx.1
      obtain ⟨y1, hy1, ry1⟩ := pget r2' hx.2
      refine ⟨⟨us', vs', x1, y1, hq', hq2', hx1, hy1⟩, fun t H2 hy => ?_⟩
      obtain ⟨T, x2, y2, rfl, hT, rfl, f1, f2⟩ := hy
      have e1 := (f1 us' hq').symm.trans hx1
      have e2 := (f2 vs' hq2').symm.trans hy1
      cases e1; cases e2
      exact ⟨T, [x1, y1], rfl, hT, rfl, .cons rx1 (.cons ry1 .nil)⟩
  · have hc : (rdL v S' == some xs && rdL w S' == some ys) = true := hc
    rw [Bool.and_eq_true] at hc
    obtain ⟨a', us', e', hq', r', z'⟩ := rdL_ok (by simpa using hc.1) hR (q.mono he)
    cases e'
    obtain ⟨b', vs', e', hq2', r2', z2'⟩ := rdL_ok (by simpa using hc.2) hR (q2.mono he)
    cases e'
    refine ⟨us', vs', hq', hq2', ?_⟩
    have e1 := r'.length
    have e2 := r2'.length
    show us'.length ≤ (zipI xs ys).length ∨ vs'.length ≤ (zipI xs ys).length
    unfold zipI
    rw [List.length_map, List.length_zip]
    omega
theorem VsR.two {x y : V} {us : List V} (h : VsR η [x, y] us) : ∃ u v, us = [u, v] ∧ VR η x u ∧ VR η y v := by
  cases h with
  | cons r t =>
    cases t with
    | cons r2 t2 => cases t2; exact ⟨_, _, rfl, r, r2⟩
theorem VsR.one {x : V} {us : List V} (h : VsR η [x] us) : ∃ u, us = [u] ∧ VR η x u := by
  cases h with
  | cons r t => cases t; exact ⟨_, rfl, r⟩
theorem fi_zip {e2 : Expr} {ma : St → Sto → R (List V)} {p pos tpos : Pos} {elts : List Expr} {kk : Nat} (hg : Gl X "zip") (hm : X.mg "zip" = none) (ha : FA X W [e, e2] ma)
    (hs : starEach [e, e2] X.env = (false, eval e X.env) :: starEach [e2] X.env := by rfl) (hs2 : (backTo pos (starEach [e2] X.env)).any (·.1) = false := by rfl) : FI X W (.Tuple elts kk tpos) (.Call (.Name "zip" p) [e, e2] [] pos) (iZ ma) :=
  ⟨_, pi_zip hg hm ha.run hs hs2, fun σ H Q h => by
    obtain ⟨η, S, σ0, hR, hS, p⟩ := h
    refine ⟨η, S, σ0, hR, hS, (Po.bind (rel := VsR) p).imp fun us H1 ⟨η1, S1, v, e1, hR1, r1, p1⟩ => ?_⟩
    split at p1
    · rename_i v w
      obtain ⟨u, z, rfl, q1, q2⟩ := VsR.two r1
      split at p1
      · rename_i xs ys h1 h2
        obtain ⟨a, b, us, vs, rfl, rfl, hq, hq2, j⟩ := JR.zip h1 h2 hR1 q1 q2
        exact ⟨a, b, us, vs, rfl, hq, hq2, p1.now hR1 j⟩
      · exact p1.elim
    · exact p1.elim⟩

/-! ### for -/
def forM (chk : Sto → Bool) (tg : Itm → St → Sto → R St) (ws : List Nat) (body : St → Sto → R Fl) : List Itm → St → Sto → R Fl
  | [], σ, S => if chk S = true then .ok (.nx σ) S else .bad
  | x :: xs, σ, S => if chk S = true then sE (tg x σ S) σ fun σ1 S1 => match body σ1 S1 with
      | .ok (.nx σ2) S2 => forM chk tg ws body xs (wipe σ2 ws) S2
      | .ok (.ct σ2) S2 => forM chk tg ws body xs (wipe σ2 ws) S2
      | .ok (.bk σ2) S2 => .ok (.nx (wipe σ2 ws)) S2
      | r => r
    else .bad
def sFor (mi : St → Sto → R AI) (tg : Itm → St → Sto → R St) (ws : List Nat) (body : St → Sto → R Fl) : St → Sto → R Fl := fun σ S => sE (mi σ S) σ fun a S1 => forM a.2 tg ws body a.1 (wipe σ ws) S1
theorem fs_for {tg iter : Expr} {bd : List Stmt} {mi : St → Sto → R AI} {t : Itm → St → Sto → R St} {body : St → Sto → R Fl} {g : TG} {is : List Nat} (hp : PassesOwn (model X.prog X.w) X.A X.env X.xe) (hc : X.calm = true) (ws : List Nat) (hi : FI X W tg iter mi) (hg : FGI X W tg t g is) (hb : FSs X W bd body)
    (hs : ∀ x, foldedSetIterable iter X.env x = pure x := by intro _; rfl) : FS X W (.For tg iter bd [] pos) (sFor mi t ws body) := by
  obtain ⟨wi, h1, h2⟩ := hi.run
  have h4 := hg.run
  refine ⟨PS.wk (ps_for hp hc h1 hg.pg hb.run hs) fun D σ H h => h2 σ H _ ?_⟩
  obtain ⟨η, S, σ0, hR, hS, p⟩ := h
  refine ⟨η, S, σ0, hR, hS, (PoS.expr (rel := JR X.K) hS p).imp fun J H1 ⟨η1, S1, a, e1, hR1, j, p1⟩ => ?_⟩
  obtain ⟨items, chk⟩ := a
  refine ⟨fun i m σ H => m = items.length - i ∧ i ≤ items.length ∧ ∃ η S σ0, η1 <+: η ∧ Rel X.K η S H ∧ SR η σ0 σ ∧ PoS X W D η H (forM chk t ws body (items.drop i) σ0 S),
    ⟨items.length, by simp, Nat.zero_le _, η1, S1, wipe σ0 ws, List.prefix_refl _, hR1, (hS.mono e1.1).drop ws, p1⟩, ?_⟩
  rintro i m σ2 H2 ⟨rfl, hi, η2, S2, σ02, he2, hR2, hS2, p2⟩
  by_cases hlt : i < items.length
  · have ed : items.drop i = items[i] :: items.drop (i + 1) := (List.drop_eq_getElem_cons hlt)
    rw [ed] at p2
    unfold forM at p2
    by_cases hk : chk S2 = true
    · rw [if_pos hk] at p2
      obtain ⟨hgo, hy⟩ := j.go η2 S2 H2 i items[i] he2 hR2 hk (List.getElem?_eq_getElem hlt)
      refine .inr ⟨hgo, fun σ' H' => ∃ η S σ0, η1 <+: η ∧ Rel X.K η S H' ∧ SR η σ0 σ' ∧ PoS X W D η H' (forM chk t ws body (items.drop (i + 1)) σ0 S), fun σ' H' q => ⟨items.length - (i + 1), by omega, rfl, hlt, q⟩, fun x H' y => ?_⟩
      refine hg.mono _ _ _ _ _ (fun _ _ z => z.2) (h4 η2 S2 H2 σ02 σ2 items[i] x H' _ hR2 hS2 (hy x H' y) ((PoS.expr (rel := SR) hS2 p2).imp fun σ3 H3 ⟨η3, S3, σ03, e3, hR3, hS3, p3⟩ => ?_))
      refine ⟨η3, S3, σ03, hR3, hS3, ?_⟩
      have ee := he2.trans e3.1
      cases hb : body σ03 S3 with
      | ok f S4 =>
        rw [hb] at p3
        cases f with
        | nx σ4 => exact fun η' H' σ' e' r q => ⟨η', S4, wipe σ4 ws, ee.trans e'.1, r, q.drop ws, PoS.mono e' p3⟩
        | ct σ4 => exact fun η' H' σ' e' r q => ⟨η', S4, wipe σ4 ws, ee.trans e'.1, r, q.drop ws, PoS.mono e' p3⟩
        | bk σ4 => exact fun η' H' σ' e' r q => p3 η' H' σ' e' r (q.drop ws)
        | rt v => exact p3
        | rs c σ4 => exact p3
      | exc c S4 => rw [hb] at p3; exact p3
      | bad => rw [hb] at p3; exact p3
    · rw [if_neg hk] at p2; exact p2.elim
  · have ei : i = items.length := by omega
    subst ei
    rw [List.drop_length] at p2
    unfold forM at p2
    by_cases hk : chk S2 = true
    · rw [if_pos hk] at p2
      exact .inl ⟨j.stop η2 S2 H2 he2 hR2 hk, p2.now hR2 hS2⟩
    · rw [if_neg hk] at p2; exact p2.elim

/-! ### while -/
/-- at most n turns -/
def whileN (t : St → Sto → R Bool) (ws : List Nat) (body : St → Sto → R Fl) : Nat → St → Sto → Option (R Fl)
  | 0, _, _ => none
  | n + 1, σ, S => match t σ S with
    | .ok true S1 => match body σ S1 with
      | .ok (.nx σ2) S2 => whileN t ws body n (wipe σ2 ws) S2
      | .ok (.ct σ2) S2 => whileN t ws body n (wipe σ2 ws) S2
      | .ok (.bk σ2) S2 => some (.ok (.nx (wipe σ2 ws)) S2)
      | r => some r
    | .ok false S1 => some (.ok (.nx σ) S1)
    | .exc c S1 => some (.ok (.rs c σ) S1)
    | .bad => some .bad
theorem whileN_mono {t : St → Sto → R Bool} {ws : List Nat} {body : St → Sto → R Fl} {r : R Fl} : ∀ {n m : Nat} {σ : St} {S : Sto}, n ≤ m → whileN t ws body n σ S = some r → whileN t ws body m σ S = some r
  | 0, _, _, _, _, h => by cases h
  | n + 1, 0, _, _, h, _ => by omega
  | n + 1, m + 1, σ, S, hl, h => by
    have hl' : n ≤ m := by omega
    unfold whileN at h ⊢
    split at h
    · split at h
      · exact whileN_mono hl' h
      · exact whileN_mono hl' h
      · exact h
      · exact h
    · exact h
    · exact h
    · exact h
open Classical in
noncomputable def whileM (t : St → Sto → R Bool) (ws : List Nat) (body : St → Sto → R Fl) (σ : St) (S : Sto) : R Fl :=
  if h : ∃ r, ∃ n, whileN t ws body n σ S = some r then Classical.choose h else .bad
theorem whileM_of {t : St → Sto → R Bool} {ws : List Nat} {body : St → Sto → R Fl} {σ : St} {S : Sto} {r : R Fl} {n : Nat} (h : whileN t ws body n σ S = some r) : whileM t ws body σ S = r := by
  have hx : ∃ r, ∃ n, whileN t ws body n σ S = some r := ⟨r, n, h⟩
  unfold whileM
  rw [dif_pos hx]
  obtain ⟨m, hm⟩ := Classical.choose_spec hx
  have a := whileN_mono (Nat.le_max_left n m) h
  have b := whileN_mono (Nat.le_max_right n m) hm
  rw [a] at b
  exact (Option.some.inj b).symm
/-- one turn -/
theorem whileM_turn (t : St → Sto → R Bool) (ws : List Nat) (body : St → Sto → R Fl) (σ : St) (S : Sto) : whileM t ws body σ S = match t σ S with
    | .ok true S1 => match body σ S1 with
      | .ok (.nx σ2) S2 => whileM t ws body (wipe σ2 ws) S2
      | .ok (.ct σ2) S2 => whileM t ws body (wipe σ2 ws) S2
      | .ok (.bk σ2) S2 => .ok (.nx (wipe σ2 ws)) S2
      | r => r
    | .ok false S1 => .ok (.nx σ) S1
    | .exc c S1 => .ok (.rs c σ) S1
    | .bad => .bad := by
  have again : ∀ σ2 S2, (∀ n, whileN t ws body (n + 1) σ S = whileN t ws body n σ2 S2) → whileM t ws body σ S = whileM t ws body σ2 S2 := fun σ2 S2 e => by
    by_cases hx : ∃ r, ∃ n, whileN t ws body n σ2 S2 = some r
    · obtain ⟨r, n, h⟩ := hx
      rw [whileM_of h, whileM_of ((e n).trans h)]
    · have hy : ¬ ∃ r, ∃ n, whileN t ws body n σ S = some r := fun ⟨r, n, h⟩ => by
        cases n with
        | zero => cases h
        | succ n => exact hx ⟨r, n, (e n).symm.trans h⟩
      unfold whileM
      rw [dif_neg hx, dif_neg hy]
  cases ht : t σ S with
  | ok b S1 =>
    cases b with
    | true =>
      dsimp only
      cases hb : body σ S1 with
      | ok f S2 =>
        cases f with
        | nx σ2 => exact again _ _ fun n => by rw [whileN, ht]; dsimp only; rw [hb]
        | ct σ2 => exact again _ _ fun n => by rw [whileN, ht]; dsimp only; rw [hb]
        | bk σ2 => exact whileM_of (n := 1) (by rw [whileN, ht]; dsimp only; rw [hb])
        | rt v => exact whileM_of (n := 1) (by rw [whileN, ht]; dsimp only; rw [hb])
        | rs c σ2 => exact whileM_of (n := 1) (by rw [whileN, ht]; dsimp only; rw [hb])
      | exc c S2 => exact whileM_of (n := 1) (by rw [whileN, ht]; dsimp only; rw [hb])
      | bad => exact whileM_of (n := 1) (by rw [whileN, ht]; dsimp only; rw [hb])
    | false => exact whileM_of (n := 1) (by rw [whileN, ht])
  | exc c S1 => exact whileM_of (n := 1) (by rw [whileN, ht])
  | bad => exact whileM_of (n := 1) (by rw [whileN, ht])
noncomputable def sWh (t : St → Sto → R Bool) (ws : List Nat) (body : St → Sto → R Fl) : St → Sto → R Fl := fun σ S => whileM t ws body (wipe σ ws) S
theorem fs_while {cnd : Expr} {bd : List Stmt} {t : St → Sto → R Bool} {body : St → Sto → R Fl} (hp : PassesOwn (model X.prog X.w) X.A X.env X.xe) (ws : List Nat) (hc : FT X W cnd t) (hb : FSs X W bd body) : FS X W (.While cnd bd [] pos) (sWh t ws body) := by
  refine ⟨PS.wk (ps_while hp hc.run hb.run) fun D σ H h => ?_⟩
  obtain ⟨η, S, σ0, hR, hS, p⟩ := h
  refine ⟨fun m σ H => ∃ η S σ0 r, whileN t ws body m σ0 S = some r ∧ Rel X.K η S H ∧ SR η σ0 σ ∧ PoS X W D η H r, ?_, ?_⟩
  · have p : PoS X W D η H (whileM t ws body (wipe σ0 ws) S) := p
    by_cases hx : ∃ r, ∃ n, whileN t ws body n (wipe σ0 ws) S = some r
    · obtain ⟨r, n, h⟩ := hx
      rw [whileM_of h] at p
      exact ⟨n, η, S, wipe σ0 ws, r, h, hR, hS.drop ws, p⟩
    · unfold whileM at p
      rw [dif_neg hx] at p
      exact p.elim
  · rintro m σ2 H2 ⟨η2, S2, σ02, r, hw, hR2, hS2, p2⟩
    cases m with
    | zero => cases hw
    | succ n =>
      unfold whileN at hw
      refine ⟨η2, S2, σ02, hR2, hS2, ?_⟩
      cases ht : t σ02 S2 with
      | ok b S3 =>
        rw [ht] at hw
        intro η3 H3 u e3 hR3 hu
        subst hu
        cases u with
        | true =>
          rw [if_pos rfl]
          refine ⟨fun σ' H' => ∃ η S σ0 r, whileN t ws body n σ0 S = some r ∧ Rel X.K η S H' ∧ SR η σ0 σ' ∧ PoS X W D η H' r, fun σ' H' q => ⟨n, Nat.lt_succ_self _, q⟩, η3, S3, σ02, hR3, hS2.mono e3.1, ?_⟩
          dsimp only at hw
          cases hb : body σ02 S3 with
          | ok f S4 =>
            rw [hb] at hw
            cases f with
            | nx σ4 => exact fun η' H' σ' e' r2 q => ⟨η', S4, wipe σ4 ws, r, hw, r2, q.drop ws, PoS.mono (e3.trans e') p2⟩
            | ct σ4 => exact fun η' H' σ' e' r2 q => ⟨η', S4, wipe σ4 ws, r, hw, r2, q.drop ws, PoS.mono (e3.trans e') p2⟩
            | bk σ4 =>
              cases hw
              exact fun η' H' σ' e' r2 q => p2 η' H' σ' (e3.trans e') r2 (q.drop ws)
            | rt v => cases hw; exact PoS.mono (D := D) (r := .ok (.rt v) S4) e3 p2
            | rs c σ4 => cases hw; exact PoS.mono (D := D) (r := .ok (.rs c σ4) S4) e3 p2
          | exc c S4 => rw [hb] at hw; cases hw; exact p2
          | bad => rw [hb] at hw; cases hw; exact p2
        | false =>
          rw [if_neg Bool.false_ne_true]
          cases hw
          exact p2 η3 H3 σ2 e3 hR3 (hS2.mono e3.1)
      | exc c S3 =>
        rw [ht] at hw
        cases hw
        exact fun η' H' C e' r2 q => p2 η' H' σ2 C e' r2 (hS2.mono e'.1) q
      | bad => rw [ht] at hw; cases hw; exact p2
end
end Fx
/-! Fx: comprehensions, more assignments, raise, try, defs. -/
namespace Fx
open PySem PySem.Spec L2
open PyProof.Rows hiding St
variable {K : PySem.W.Frag} {η : List Addr} {S : Sto} {H : Hp}
/-! ### slots that are forgotten -/
theorem wipe_get (σ : St) : ∀ (vs : List Nat) (j : Nat), (wipe σ vs)[j]? = if j ∈ vs then (σ[j]?).map fun _ => none else σ[j]?
  | [], j => by simp [wipe]
  | v :: vs, j => by
    show ((wipe σ vs).set v none)[j]? = _
    have ih := wipe_get σ vs
    by_cases h : j = v
    · subst h
      rw [if_pos List.mem_cons_self]
      by_cases hl : j < (wipe σ vs).length
      · rw [List.getElem?_set_self hl]
        have hl' : j < σ.length := by rw [wipe_length] at hl; exact hl
        rw [List.getElem?_eq_getElem hl']; rfl
      · rw [List.getElem?_eq_none (by rw [List.length_set]; omega)]
        rw [wipe_length] at hl
        rw [List.getElem?_eq_none (by omega)]; rfl
    · rw [List.getElem?_set_ne (Ne.symm h), ih]
      by_cases hm : j ∈ vs
      · rw [if_pos hm, if_pos (List.mem_cons_of_mem _ hm)]
      · rw [if_neg hm, if_neg (by simp [h, hm])]
theorem wipe_set {σ : St} {vs : List Nat} {i : Nat} {v : Option V} (h : i ∈ vs) : wipe (σ.set i v) vs = wipe σ vs := by
  apply List.ext_getElem?
  intro j
  rw [wipe_get, wipe_get]
  by_cases hj : j = i
  · subst hj
    rw [if_pos h, if_pos h]
    by_cases hl : j < σ.length
    · rw [List.getElem?_set_self hl, List.getElem?_eq_getElem hl]; rfl
    · rw [List.getElem?_eq_none (by simpa using hl), List.getElem?_eq_none (by omega)]
  · rw [List.getElem?_set_ne (Ne.symm hj)]
theorem wipe_sets {vs : List Nat} : ∀ {is : List Nat} {us : List V} {σ : St}, (∀ i ∈ is, i ∈ vs) → wipe (gTs is us σ) vs = wipe σ vs
  | [], _, _, _ => rfl
  | i :: is, [], _, _ => rfl
  | i :: is, u :: us, σ, h => by
    show wipe (gTs is us (σ.set i (some u))) vs = _
    rw [wipe_sets (fun j hj => h j (List.mem_cons_of_mem _ hj)), wipe_set (h i List.mem_cons_self)]
theorem wipe_wipe (σ : St) (vs : List Nat) : wipe (wipe σ vs) vs = wipe σ vs := by
  apply List.ext_getElem?
  intro j
  rw [wipe_get, wipe_get]
  by_cases h : j ∈ vs
  · rw [if_pos h, if_pos h]; cases σ[j]? <;> rfl
  · rw [if_neg h, if_neg h]
/-! ### comprehensions -/
def compM (chk : Sto → Bool) (tg : Itm → St → Sto → R St) (tt : St → Sto → R Bool) (te : St → Sto → R V) : List Itm → St → Sto → R (List V)
  | [], σ, S => if chk S = true then .ok [] S else .bad
  | x :: xs, σ, S => if chk S = true then (tg x σ S).nox.bind fun σ1 S1 => (tt σ1 S1).nox.bind fun b S2 => if b = true then (te σ1 S2).nox.bind fun y S3 => (compM chk tg tt te xs σ S3).bind fun ys S4 => .ok (y :: ys) S4
      else compM chk tg tt te xs σ S2
    else .bad
def tYs : St → Sto → R Bool := fun _ S => .ok true S
def eComp (mi : St → Sto → R AI) (tg : Itm → St → Sto → R St) (tt : St → Sto → R Bool) (te : St → Sto → R V) (own : List Nat) : St → Sto → R V := fun σ S => (mi σ S).bind fun a S1 => (compM a.2 tg tt te a.1 (wipe σ own) S1).bind fun ys S2 => alloc (.lst ys) S2
abbrev W0 : WX := fun _ _ _ _ => False
section
variable {X : Cx} {W : WX} {e : Expr} {m : St → Sto → R V} {pos : Pos}
theorem Po.bindB {α β γ δ : Type} {mg : Str → Option Value} {W : WX} {σ σ' : St} {rel : List Addr → α → β → Prop} {rel2 : List Addr → γ → δ → Prop} {η1 : List Addr} {H1 : Hp} {r : R α} {f : α → Sto → R γ} {Q : δ → Hp → Prop} (p : Po K mg W σ rel2 η1 H1 (r.nox.bind f) Q) :
    Po K mg W0 σ' rel η H r (fun u H' => ∃ η' S' v, Ext η H η' H' ∧ Rel K η' S' H' ∧ rel η' v u ∧ Po K mg W σ rel2 η1 H1 (f v S') Q) := by
  cases r with
  | ok v S' => exact fun η' H' u e' r q => ⟨η', S', v, e', r, q, p⟩
  | exc c S' => exact p.elim
  | bad => exact p.elim
structure FTs (X : Cx) (W : WX) (ifs : List Expr) (t : St → Sto → R Bool) : Prop where
  run : PTs X ifs (lfT X W t)
theorem fts_nil : FTs X W [] tYs := ⟨⟨fun pins s σ H Q I h => by
  obtain ⟨η, S, σ0, hR, hS, p⟩ := h
  exact (pts_nil (X := X)).run pins s σ H Q I (p.now hR rfl)⟩⟩
theorem fts_one {c : Expr} {t : St → Sto → R Bool} (h : FT X W c t) : FTs X W [c] t := ⟨pts_one h.run⟩
theorem lf_lc {mi : St → Sto → R AI} {tg : Itm → St → Sto → R St} {tt : St → Sto → R Bool} {te : St → Sto → R V} {own : List Nat} {wi : TI} {g : TG} {is : List Nat}
    (hi : ∀ σ H Q, lfI X W mi σ H Q → wi σ H Q) (hg : ∀ η S H σ0 σ it x H' Q, Rel X.K η S H → SR η σ0 σ → YldR η it H x H' → Po X.K X.mg W0 σ SR η H (tg it σ0 S) Q → g x σ H' fun σ2 H2 => (∃ us, σ2 = gTs is us σ) ∧ Q σ2 H2)
    (hm : ∀ x σ H Q Q', (∀ a b, Q a b → Q' a b) → g x σ H Q → g x σ H Q') (his : ∀ i ∈ is, i ∈ own) {σ : St} {H : Hp} {Q : VK} (h : lfE X W (eComp mi tg tt te own) σ H Q) : tLc wi g (lfT X W0 tt) (lfE X W0 te) own σ H Q := by
  refine hi σ H _ ?_
  obtain ⟨η, S, σ0, hR, hS, p⟩ := h
  refine ⟨η, S, σ0, hR, hS, (Po.bind (rel := JR X.K) p).imp fun J H1 ⟨η1, S1, a, e1, hR1, j, p1⟩ => ?_⟩
  obtain ⟨items, chk⟩ := a
  intro D hD
  have hSw : ∀ η2, η1 <+: η2 → SR η2 (wipe σ0 own) (wipe σ own) := fun η2 h2 => (hS.mono (e1.1.trans h2)).wipe own
  -- the invariant
  refine ⟨fun i m H => m = items.length - i ∧ i ≤ items.length ∧ ∃ η S acc us, Ext η1 H1 η H ∧ Rel X.K η S H ∧ H D = some (.lst us) ∧ VsR η acc us ∧ D ∉ η.drop 1 ∧ acc.length ≤ i ∧
    Po X.K X.mg W σ VR η1 H1 ((compM chk tg tt te (items.drop i) (wipe σ0 own) S).bind fun ys S2 => alloc (.lst (acc ++ ys)) S2) Q, ?_, ?_⟩
  · exact ⟨items.length, by simp, Nat.zero_le _, η1, S1, [], [], Ext.side hD _, hR1.side hD _, upd_same, .nil, hR1.off hD, Nat.le_refl _, p1⟩
  · rintro i mm H2 ⟨rfl, hil, η2, S2, acc, us, e2, hR2, hDu, hacc, hDo, hal, p2⟩
    by_cases hlt : i < items.length
    · have ed : items.drop i = items[i] :: items.drop (i + 1) := (List.drop_eq_getElem_cons hlt)
      rw [ed] at p2
      unfold compM at p2
      by_cases hk : chk S2 = true
      · rw [if_pos hk] at p2
        obtain ⟨hgo, hy⟩ := j.go η2 S2 H2 i items[i] e2.1 hR2 hk (List.getElem?_eq_getElem hlt)
        refine .inr ⟨hgo, fun H' => ∃ η S acc us, Ext η1 H1 η H' ∧ Rel X.K η S H' ∧ H' D = some (.lst us) ∧ VsR η acc us ∧ D ∉ η.drop 1 ∧ acc.length ≤ i + 1 ∧
          Po X.K X.mg W σ VR η1 H1 ((compM chk tg tt te (items.drop (i + 1)) (wipe σ0 own) S).bind fun ys S2 => alloc (.lst (acc ++ ys)) S2) Q, fun H' q => ⟨items.length - (i + 1), by omega, rfl, hlt, q⟩, fun x H' y => ?_⟩
        have as : ∀ {α β γ : Type} (r : R α) (f : α → Sto → R β) (k : β → Sto → R γ), (r.bind f).bind k = r.bind fun a S => (f a S).bind k := fun r f k => by cases r <;> rfl
        rw [as] at p2
        refine hm _ _ _ _ _ (fun σ3 H3 z => ?_) (hg η2 S2 H2 (wipe σ0 own) (wipe σ own) items[i] x H' _ hR2 (hSw η2 e2.1) (hy x H' y) (Po.bindB (rel := SR) (η := η2) (H := H2) p2))
        obtain ⟨⟨us3, rfl⟩, η3, S3, σ03, e3, hR3, hS3, p3⟩ := z
        refine ⟨by rw [wipe_sets his, wipe_wipe], ?_⟩
        rw [as] at p3
        refine ⟨η3, S3, σ03, hR3, hS3, (Po.bindB (rel := fun _ a b => b = a) (η := η3) (H := H3) p3).imp fun b H4 ⟨η4, S4, b', e4, hR4, rb, p4⟩ => ?_⟩
        subst rb
        have e24 := e3.trans e4
        obtain ⟨hD4, hDo4⟩ := e24.2.1 D _ hDu hDo rfl
        cases b with
        | false =>
          rw [if_neg Bool.false_ne_true] at p4 ⊢
          exact ⟨η4, S4, acc, us, e2.trans e24, hR4, hD4, hacc.mono e24.1, hDo4, by omega, p4⟩
        | true =>
          rw [if_pos rfl] at p4 ⊢
          rw [as] at p4
          refine ⟨η4, S4, σ03, hR4, hS3.mono e4.1, (Po.bindB (rel := VR) (η := η4) (H := H4) p4).imp fun v H5 ⟨η5, S5, v', e5, hR5, rv, p5⟩ => ?_⟩
          obtain ⟨hD5, hDo5⟩ := e5.2.1 D _ hD4 hDo4 rfl
          have hl := hacc.length
          have hjl := j.len
          refine ⟨us, hD5, by
            have : items.length ≤ sizeLine := hjl
            omega, η5, S5, acc ++ [v'], us ++ [v], ((e2.trans e24).trans e5).upd hD _, hR5.other hDo5 (fun o us' q => by rw [hD5] at q; cases q) _ (imm_lst hD5), upd_same, papp (hacc.mono (e24.1.trans e5.1)) (.cons rv .nil), hDo5, by simp; omega, ?_⟩
          rw [as] at p5
          have eq : (fun a S => ((R.ok (v' :: a) S).bind fun ys S2 => alloc (.lst (acc ++ ys)) S2)) = fun ys S2 => alloc (.lst (acc ++ [v'] ++ ys)) S2 := by
            funext a S
            show alloc (.lst (acc ++ v' :: a)) S = _
            rw [List.append_assoc]; rfl
          rw [← eq]
          exact p5
      · rw [if_neg hk] at p2; exact p2.elim
    · have ei : i = items.length := by omega
      subst ei
      rw [List.drop_length] at p2
      unfold compM at p2
      by_cases hk : chk S2 = true
      · rw [if_pos hk] at p2
        refine .inl ⟨j.stop η2 S2 H2 e2.1 hR2 hk, ?_⟩
        have hjl := j.len
        have p2 : Po X.K X.mg W σ VR η1 H1 (alloc (.lst (acc ++ [])) S2) Q := p2
        rw [List.append_nil] at p2
        exact p2 (η2 ++ [D]) H2 (.ref D) (Ext.add hR2 e2 hD) (hR2.add hDo (o := .lst acc) ⟨Nat.le_trans hal hjl, us, hDu, hacc.mono (List.prefix_append _ _)⟩ rfl) (VR.new hR2)
      · rw [if_neg hk] at p2; exact p2.elim
theorem fe_lc {elt tg iter : Expr} {ifs : List Expr} {scope : Scope} {own : List (Str × Nat)} {mi : St → Sto → R AI} {t : Itm → St → Sto → R St} {g : TG} {is : List Nat} {tt : St → Sto → R Bool} {te : St → Sto → R V} (hc : X.calm = true) (hN : X.N.Nodup) (hi : FI X W tg iter mi) (ok : BlkOk X.N X.env.scope scope own)
    (hg : ∀ (s : Shared) (H : Hp) (C : Addr) (cl : List (Str × Addr)) (fp : List Addr), FGI (X.blk s H scope (compEnvC scope cl C X.env) fp) W0 tg t g is) (ht : ∀ (s : Shared) (H : Hp) (C : Addr) (cl : List (Str × Addr)) (fp : List Addr), FTs (X.blk s H scope (compEnvC scope cl C X.env) fp) W0 ifs tt)
    (he : ∀ (s : Shared) (H : Hp) (C : Addr) (cl : List (Str × Addr)) (fp : List Addr), FE (X.blk s H scope (compEnvC scope cl C X.env) fp) W0 elt te) (his : ∀ i ∈ is, i ∈ own.map (·.2) := by decide) (hs : ∀ x, foldedSetIterable iter X.env x = pure x := by intro _; rfl) :
    FE X W (.ListComp elt [⟨tg, iter, ifs, 0⟩] scope pos) (eComp mi t tt te (own.map (·.2))) := by
  obtain ⟨wi, h1, h2⟩ := hi.run
  have sh : Shared := {}
  exact ⟨PE.wk (pe_lc (te := lfE X W0 te) (tt := lfT X W0 tt) hc hN h1 ok (fun s H C cl fp => (hg s H C cl fp).pg) (fun s H C cl fp => (ht s H C cl fp).run) (fun s H C cl fp => (he s H C cl fp).run) hs) fun σ H Q h =>
    lf_lc h2 (hg sh (fun _ => none) 0 [] []).run (hg sh (fun _ => none) 0 [] []).mono his h⟩
theorem fs_setLc {i : Nat} {y : Str} {py : Pos} {elt tg iter : Expr} {ifs : List Expr} {scope : Scope} {own : List (Str × Nat)} {spos : Pos} {mi : St → Sto → R AI} {t : Itm → St → Sto → R St} {g : TG} {is : List Nat} {tt : St → Sto → R Bool} {te : St → Sto → R V} (hc : X.calm = true) (hN : X.N.Nodup) (hy : X.N[i]? = some y) (hyl : X.env.scope.names.lookup y = some .local)
    (hsw : swapsWith (.ListComp elt [⟨tg, iter, ifs, 0⟩] scope pos) (some (.Name y py)) spos.line X.env = pure true) (hi : FI X W tg iter mi) (ok : BlkOk X.N X.env.scope scope own)
    (hg : ∀ (s : Shared) (H : Hp) (C : Addr) (cl : List (Str × Addr)) (fp : List Addr), FGI (X.blk s H scope (compEnvC scope cl C X.env) fp) W0 tg t g is) (ht : ∀ (s : Shared) (H : Hp) (C : Addr) (cl : List (Str × Addr)) (fp : List Addr), FTs (X.blk s H scope (compEnvC scope cl C X.env) fp) W0 ifs tt)
    (he : ∀ (s : Shared) (H : Hp) (C : Addr) (cl : List (Str × Addr)) (fp : List Addr), FE (X.blk s H scope (compEnvC scope cl C X.env) fp) W0 elt te) (his : ∀ i ∈ is, i ∈ own.map (·.2) := by decide) (hs : ∀ x, foldedSetIterable iter X.env x = pure x := by intro _; rfl) :
    FS X W (.Assign [.Name y py] (.ListComp elt [⟨tg, iter, ifs, 0⟩] scope pos) spos) (sSet i (eComp mi t tt te (own.map (·.2)))) := by
  obtain ⟨wi, h1, h2⟩ := hi.run
  have sh : Shared := {}
  refine ⟨PS.wk (ps_setLc (te := lfE X W0 te) (tt := lfT X W0 tt) hc hN hy hyl hsw h1 ok (fun s H C cl fp => (hg s H C cl fp).pg) (fun s H C cl fp => (ht s H C cl fp).run) (fun s H C cl fp => (he s H C cl fp).run) hs) fun D σ H h => ?_⟩
  refine lf_lc h2 (hg sh (fun _ => none) 0 [] []).run (hg sh (fun _ => none) 0 [] []).mono his ?_
  obtain ⟨η, S, σ0, hR, hS, p⟩ := h
  refine ⟨η, S, σ0, hR, hS, (PoS.expr (rel := VR) hS p).imp fun u H1 ⟨η1, S1, v, e1, hR1, r1, p1⟩ => ?_⟩
  exact p1.now hR1 ((hS.mono e1.1).set i r1)
end
end Fx
/-! Fx: stores, defs and their ends. -/
namespace Fx
open PySem PySem.Spec L2
open PyProof.Rows hiding St
variable {K : PySem.W.Frag} {η : List Addr} {S : Sto} {H : Hp}
section
variable {X : Cx} {W : WX} {e : Expr} {m : St → Sto → R V} {pos : Pos}
/-! o[i] = v -/
def SetM (X : Cx) (t : TSet) (m : V → V → V → Sto → R Unit) : Prop := ∀ W σ η S H o i v uo ui uv Q, Rel X.K η S H → VR η o uo → VR η i ui → VR η v uv → Po X.K X.mg W σ (fun _ _ (_ : Unit) => True) η H (m o i v S) (fun _ H' => Q H') → t uo ui uv H Q
def gSb (mo mi : St → Sto → R V) (m : V → V → V → Sto → R Unit) : V → St → Sto → R St := fun v σ S => (mo σ S).bind fun o S1 => (mi σ S1).bind fun i S2 => (m o i v S2).bind fun _ S3 => .ok σ S3
theorem fg_sub {o i : Expr} {mo mi : St → Sto → R V} {t : TSet} {m : V → V → V → Sto → R Unit} (ho : FE X W o mo) (hi : FE X W i mi) (hs : PSet X t) (hm : SetM X t m) (ha : ∀ v, assign (.Subscript o i pos) X.env v = (do let ov ← holding [v] (eval o X.env); let iv ← holding [v, ov] (eval i X.env); standAt pos; holding [v, ov, iv] (setItem ov iv v); release [v, ov, iv] []) := by intro _; rfl) : FG X W (.Subscript o i pos) (gSb mo mi m) :=
  ⟨_, pg_sub ho.run hi.run hs ha, fun η S H σ0 σ x u Q hR hS r p => by
    refine ⟨η, S, σ0, hR, hS, (Po.bind (rel := VR) p).imp fun u1 H1 ⟨η1, S1, v1, e1, hR1, r1, p1⟩ => ?_⟩
    refine ⟨η1, S1, σ0, hR1, hS.mono e1.1, (Po.bind (rel := VR) p1).imp fun u2 H2 ⟨η2, S2, v2, e2, hR2, r2, p2⟩ => ?_⟩
    refine hm W σ η2 S2 H2 v1 v2 x u1 u2 u _ hR2 (r1.mono e2.1) r2 (r.mono (e1.1.trans e2.1)) ((Po.bind (rel := fun _ _ (_ : Unit) => True) p2).imp fun _ H3 ⟨η3, S3, v3, e3, hR3, _, p3⟩ => ?_)
    exact p3.now hR3 (hS.mono (e1.1.trans (e2.1.trans e3.1)))⟩
def setL : V → V → V → Sto → R Unit := fun o i v S => match o, i with
  | .ref n, .int k => match S[n]? with
    | some (.lst xs) => match ixN xs.length k with
      | some j => .ok () (S.set n (.lst (xs.set j v)))
      | none => .bad
    | _ => .bad
  | _, _ => .bad
theorem setL_ok : SetM X rSetL setL := by
  intro W σ η S H o i v uo ui uv Q hR ho hi hv p
  unfold setL at p
  split at p
  · rename_i n k
    obtain ⟨a, ea, rfl⟩ := ho
    cases (show ui = V.int k from hi)
    split at p
    · rename_i xs hx
      split at p
      · rename_i j hj
        obtain ⟨z, us, e2, r2⟩ := hR.ob n a _ ea hx
        refine ⟨a, us, k, j, rfl, rfl, e2, by rw [← r2.length]; exact hj, ?_⟩
        exact p η _ () (Ext.set hR ea hx rfl) (hR.set ea hx rfl ⟨by simpa using z, _, upd_same, pset hv j r2⟩ rfl) trivial
      · exact p.elim
    · exact p.elim
  · exact p.elim
/-! op= -/
def IpM (X : Cx) (t : TIp) (m : V → V → Sto → R V) : Prop := ∀ W σ η S H x y u v Q, Rel X.K η S H → VR η x u → VR η y v → Po X.K X.mg W σ VR η H (m x y S) Q → t u v H Q
def sAug (i : Nat) (m : V → V → Sto → R V) (me : St → Sto → R V) : St → Sto → R Fl := fun σ S => match σ[i]? with
  | some (some x) => sE (me σ S) σ fun y S1 => sE (m x y S1) σ fun z S2 => .ok (.nx (σ.set i (some z))) S2
  | _ => .bad
theorem fs_aug {i : Nat} {x : Str} {op : Operator} {t : TIp} {mo : V → V → Sto → R V} {pos' : Pos} (hN : X.N.Nodup) (hi : X.N[i]? = some x) (hx : Loc X.env.scope x) (he : FE X W e m) (ho : PIp X op t) (hm : IpM X t mo) (hf : X.fn x = true ∨ X.env.scope.names.lookup x = some .local := by first | exact .inl rfl | exact .inr rfl | assumption) :
    FS X W (.AugAssign (.Name x pos') op e pos) (sAug i mo m) := ⟨PS.wk (ps_aug hN hi hx he.run ho hf) fun D σ H h => by
  obtain ⟨η, S, σ0, hR, hS, p⟩ := h
  unfold sAug at p
  cases ex : σ0[i]? with
  | none => rw [ex] at p; exact p.elim
  | some o =>
    cases o with
    | none => rw [ex] at p; exact p.elim
    | some v =>
      rw [ex] at p
      obtain ⟨w, h1, h2⟩ := pget hS ex
      cases w with
      | none => exact h2.elim
      | some w =>
        refine ⟨w, h1, η, S, σ0, hR, hS, (PoS.expr (rel := VR) hS p).imp fun u H1 ⟨η1, S1, y, e1, hR1, r1, p1⟩ => ?_⟩
        refine hm W σ η1 S1 H1 v y w u _ hR1 (VR.mono e1.1 h2) r1 ((PoS.expr (rel := VR) (hS.mono e1.1) p1).imp fun z H2 ⟨η2, S2, z', e2, hR2, r2, p2⟩ => ?_)
        exact p2.now hR2 ((hS.mono (e1.1.trans e2.1)).set i r2)⟩
def sAugS (mo mi : St → Sto → R V) (get : V → V → Sto → R V) (me : St → Sto → R V) (op : V → V → Sto → R V) (set : V → V → V → Sto → R Unit) : St → Sto → R Fl := fun σ S =>
  sE (mo σ S) σ fun o S1 => sE (mi σ S1) σ fun i S2 => sE (get o i S2) σ fun x S3 => sE (me σ S3) σ fun y S4 => sE (op x y S4) σ fun z S5 => sE (set o i z S5) σ fun _ S6 => .ok (.nx σ) S6
theorem fs_augS {o i : Expr} {mo mi : St → Sto → R V} {get op' : V → V → Sto → R V} {set : V → V → V → Sto → R Unit} {tget : V → V → Hp → VK → Prop} {tip : TIp} {tset : TSet} {op : Operator} {tpos : Pos} (ho : FE X W o mo) (hi : FE X W i mi) (hg : PGet X tget) (hgm : OpM X tget get) (he : FE X W e m) (hp : PIp X op tip) (hpm : IpM X tip op') (hs : PSet X tset) (hsm : SetM X tset set)
    (ha : ∀ ov iv new, augStore i ov iv new = (do holding [new, ov, iv] (setItem ov iv new); release [new, ov, iv] []; pure .next) := by intros; rfl) : FS X W (.AugAssign (.Subscript o i tpos) op e pos) (sAugS mo mi get m op' set) :=
  ⟨PS.wk (ps_augS ho.run hi.run hg he.run hp hs ha) fun D σ H h => by
    obtain ⟨η, S, σ0, hR, hS, p⟩ := h
    refine ⟨η, S, σ0, hR, hS, (PoS.expr (rel := VR) hS p).imp fun u1 H1 ⟨η1, S1, v1, e1, hR1, r1, p1⟩ => ?_⟩
    refine ⟨η1, S1, σ0, hR1, hS.mono e1.1, (PoS.expr (rel := VR) (hS.mono e1.1) p1).imp fun u2 H2 ⟨η2, S2, v2, e2, hR2, r2, p2⟩ => ?_⟩
    have f2 := e1.trans e2
    refine hgm W σ η2 S2 H2 v1 v2 u1 u2 _ hR2 (r1.mono e2.1) r2 ((PoS.expr (rel := VR) (hS.mono f2.1) p2).imp fun u3 H3 ⟨η3, S3, v3, e3, hR3, r3, p3⟩ => ?_)
    have f3 := f2.trans e3
    refine ⟨η3, S3, σ0, hR3, hS.mono f3.1, (PoS.expr (rel := VR) (hS.mono f3.1) p3).imp fun u4 H4 ⟨η4, S4, v4, e4, hR4, r4, p4⟩ => ?_⟩
    have f4 := f3.trans e4
    refine hpm W σ η4 S4 H4 v3 v4 u3 u4 _ hR4 (r3.mono e4.1) r4 ((PoS.expr (rel := VR) (hS.mono f4.1) p4).imp fun u5 H5 ⟨η5, S5, v5, e5, hR5, r5, p5⟩ => ?_)
    have f5 := f4.trans e5
    refine hsm W σ η5 S5 H5 v1 v2 v5 u1 u2 u5 _ hR5 (r1.mono (e2.1.trans (e3.1.trans (e4.1.trans e5.1)))) (r2.mono (e3.1.trans (e4.1.trans e5.1))) r5 ((PoS.expr (rel := fun _ _ (_ : Unit) => True) (hS.mono f5.1) p5).imp fun _ H6 ⟨η6, S6, _, e6, hR6, _, p6⟩ => ?_)
    exact p6.now hR6 (hS.mono (f5.1.trans e6.1))⟩
/-! a, b = x, y -/
def sPar (i j : Nat) (ma : St → Sto → R (List V)) : St → Sto → R Fl := fun σ S => sE (ma σ S) σ fun vs S1 => match vs with
  | [v, w] => .ok (.nx ((σ.set i (some v)).set j (some w))) S1
  | _ => .bad
theorem fs_par {i j : Nat} {x y : Str} {a b : Expr} {ma : St → Sto → R (List V)} {px py pt : Pos} {kt k2 pt2} (hc : X.calm = true) (hN : X.N.Nodup) (hi : X.N[i]? = some x) (hj : X.N[j]? = some y) (hij : i ≠ j)
    (hx : X.env.scope.names.lookup x = some .local) (hy : X.env.scope.names.lookup y = some .local) (ha : FA X W [a, b] ma)
    (hw : swappedStores [.Tuple [.Name x px, .Name y py] kt pt] (.Tuple [a, b] k2 pt2) X.env = pure (some [x, y]))
    (hs : swapsWithSole [.Tuple [.Name x px, .Name y py] kt pt] (.Tuple [a, b] k2 pt2) pos.line X.env = pure false := by rfl) :
    FS X W (.Assign [.Tuple [.Name x px, .Name y py] kt pt] (.Tuple [a, b] k2 pt2) pos) (sPar i j ma) := ⟨PS.wk (ps_par hc hN hi hj hij hx hy ha.run hw hs) fun D σ H h => by
  obtain ⟨η, S, σ0, hR, hS, p⟩ := h
  refine ⟨η, S, σ0, hR, hS, (PoS.expr (rel := VsR) hS p).imp fun u H1 ⟨η1, S1, v, e1, hR1, r1, p1⟩ => ?_⟩
  split at p1
  · obtain ⟨u1, u2, rfl, q1, q2⟩ := VsR.two r1
    exact ⟨u1, u2, rfl, p1.now hR1 (((hS.mono e1.1).set i q1).set j q2)⟩
  · exact p1.elim⟩
/-! raise -/
def sRs (c : String) : St → Sto → R Fl := fun σ S => .ok (.rs c σ) S
theorem fs_raise {C : Addr} {bmB : List Value} {B newId initId : String} {c : String} {x mm : Str} {j : Nat} {p p2 pos' : Pos} (hc : X.calm = true) (tk : Takes X W) (F : ExcBaseFacts B newId initId bmB) (q : PySem.W.excIn X.K C bmB newId = true) (gC : X.mg x = some (.ref C)) (kC : PySem.W.keepIn X.K (.ref C) = true) (r : Raises X (.ref C)) (hg : Gl X x)
    (hx : x = Str.ofString c := by rfl) (hdb : (x == ("__debug__" : Str)) = false := by decide) : FS X W (.Raise (some (.Call (.Name x p) [.Constant (.str mm) j p2] [] pos')) none pos) (sRs c) :=
  ⟨PS.wk (ps_raise hc tk (pmk_own F q gC kC r hg hdb)) fun D σ H h => by
    obtain ⟨η, S, σ0, hR, hS, p⟩ := h
    exact p η H σ C (Ext.refl _ _) hR hS (by rw [← hx]; exact gC)⟩
end
/-! ### a def -/
def finF (r : R Fl) : R V := match r with
  | .ok (.nx _) S' => .ok .non S'
  | .ok (.rt v) S' => .ok v S'
  | .ok (.rs c _) S' => .exc c S'
  | _ => .bad
def runF (n : Nat) (c : St → Sto → R Fl) (vs : List V) (S : Sto) : R V := finF (c (vs.map some ++ List.replicate (n - vs.length) none) S)
theorem SR.start {vs us : List V} (r : VsR η vs us) (N : List Str) : SR η (vs.map some ++ List.replicate (N.length - vs.length) none) (L2.start N us) := by
  unfold L2.start
  rw [r.length]
  refine papp ?_ ?_
  · induction r with
    | nil => exact .nil
    | cons r _ ih => exact .cons r ih
  · generalize N.length - us.length = k
    induction k with
    | zero => exact .nil
    | succ k ih => exact .cons trivial ih
variable {P : Program} {w : World} {mg : Str → Option Value} {base : Heap}
theorem fn_ok {x qual : Str} {st : Stmt} {f : Addr} {fd : FuncData} {N ps : List Str} {k : Nat} {c : St → Sto → R Fl} (F : Fun K x qual st f fd) (S : FnScope N ps (defScope st)) (n : Nat) (hn : ps.length = n) (nN : Nat) (hN : N.length = nN)
    (hbody : ∀ (cdv : Value) (A : Around) (outer : List Env) (s : Shared) (H : Hp) (E : XK), Room k (A.deeper (envOfC qual (defScope st) s.heap.objs.size f cdv)) → Takes (cxOf (L2.CX P w) P w K mg base N qual (defScope st) f cdv A outer s H E) (fun cls d _ H => E cls d H) →
      PassesOwn (model P w) (A.deeper (envOfC qual (defScope st) s.heap.objs.size f cdv)) (envOfC qual (defScope st) s.heap.objs.size f cdv) (cxOf (L2.CX P w) P w K mg base N qual (defScope st) f cdv A outer s H E).xe →
      FSs (cxOf (L2.CX P w) P w K mg base N qual (defScope st) f cdv A outer s H E) (fun cls d _ H => E cls d H) (defBody st) c) : FnOk P w K mg base (L2.CX P w) (k + 1) f fd ps (spM K mg n (runF nN c)) := by
  refine F.okX S (fun vs H Q E h => h.1.trans hn.symm) fun cdv A outer s H vs Q E hr h => ?_
  refine ⟨_, (hbody cdv A outer s H E hr (takes_of rfl rfl rfl rfl) (passes_of (X := cxOf (L2.CX P w) P w K mg base N qual (defScope st) f cdv A outer s H E) rfl)).run, ?_⟩
  obtain ⟨hl, η, S, vs0, hR, hv, p⟩ := h
  refine ⟨η, S, _, hR, SR.start hv N, ?_⟩
  unfold runF finF at p
  rw [← hN] at p
  cases e : c (vs0.map some ++ List.replicate (N.length - vs0.length) none) S with
  | ok fl S' =>
    rw [e] at p
    cases fl with
    | nx σ => exact fun η' H' σ1 e' r q => p η' H' .non e' r rfl
    | rt v => exact p
    | rs cc σ => exact fun η' H' σ1 C e' r q z => p η' H' C e' r z
    | bk σ => exact p.elim
    | ct σ => exact p.elim
  | exc cc S' => rw [e] at p; exact p.elim
  | bad => rw [e] at p; exact p.elim
/-! ### the law's end -/
theorem passL' {P : Program} {w : World} (H : Hp) (s : Shared) (e : Value) (s' : Shared) : L2.CX P w [] H s (fun _ _ _ => False) e s' → False := fun h => by
  obtain ⟨_, _, _, _, _, _, _, _, _, _, _, _, z⟩ := h
  exact z
/-- what is asked of the law's call -/
def spLw (K : PySem.W.Frag) (m : List V → Sto → R V) : Sp := fun vs H Q _ => ∃ (a : Addr) (ns : List Int), vs = [V.ref a] ∧ ns.length ≤ 63 ∧ Only H ∧ SqL K H a (ns.map V.int) ∧ (∃ S', m [.ref 0] [.frl (ns.map V.int)] = .ok (.bl true) S') ∧ ∀ H', Q (.bl true) H'
theorem spLw_imp {m : List V → Sto → R V} {vs : List V} {H : Hp} {Q : VK} {E : XK} (h : spLw K m vs H Q E) : spM K mg 1 m vs H Q E := by
  obtain ⟨a, ns, rfl, hl, ho, hS, h, q⟩ := h
  refine ⟨rfl, [a], [.frl (ns.map V.int)], [.ref 0], ⟨rfl, Nat.zero_lt_one, fun n b o e q => ?_, fun n o q => ?_, fun m n b h1 h2 e e' => ?_⟩, .cons ⟨a, rfl, rfl⟩ .nil, ?_⟩
  · cases n with
    | succ n => cases e
    | zero =>
      cases e; cases q
      refine ⟨by rw [List.length_map]; exact Nat.le_trans hl (by decide), ns.map V.int, ?_, ?_⟩
      · rcases hS with (h | ⟨o, h⟩) | h
        · rcases ho a with z | ⟨o, xs, z⟩
          · rw [z] at h; cases h
          · rw [z] at h; cases h
        · exact .inl ⟨o, h⟩
        · exact .inr (.inr h)
      · clear hS h hl
        induction ns with
        | nil => exact .nil
        | cons n ns ih => exact .cons rfl ih
  · cases n with
    | succ n => cases q
    | zero => cases q; exact ⟨fun _ => rfl, fun _ => rfl⟩
  · cases m with
    | zero => omega
    | succ m => cases e
  · obtain ⟨S', e⟩ := h
    rw [e]
    exact fun η' H' u _ _ r => by
      rw [show u = V.bl true from r]
      exact q H'
end Fx
/-! Fx: operators, built-ins, methods by values. -/
namespace Fx
open PySem PySem.Spec L2
open PyProof.Rows hiding St
variable {K : PySem.W.Frag} {η : List Addr} {S : Sto} {H : Hp}
section
variable {X : Cx}
/-! ### ints -/
def i2 (C : Int → Int → Bool) (g : Int → Int → V) : V → V → Sto → R V := fun x y S => match x, y with
  | .int i, .int j => if C i j = true then .ok (g i j) S else .bad
  | _, _ => .bad
theorem i2_ok {C : Int → Int → Prop} {C' : Int → Int → Bool} {g : Int → Int → V} (hc : ∀ i j, C' i j = true → C i j) (hg : ∀ i j, closedV (g i j) = true) : OpM X (rI C g) (i2 C' g) := by
  intro W σ η S H x y u v Q hR hx hy p
  unfold i2 at p
  split at p
  · rename_i i j
    split at p
    · rename_i h
      exact ⟨i, j, hx, hy, hc i j h, p.now hR (VR.closed (hg i j))⟩
    · exact p.elim
  · exact p.elim
def yes2 : Int → Int → Bool := fun _ _ => true
theorem i20_ok {g : Int → Int → V} (hg : ∀ i j, closedV (g i j) = true) : OpM X (rI0 g) (i2 yes2 g) := by
  intro W σ η S H x y u v Q hR hx hy p
  unfold i2 at p
  split at p
  · rename_i i j
    exact ⟨i, j, hx, hy, p.now hR (VR.closed (hg i j))⟩
  · exact p.elim
/-! ### lists and texts by + -/
def catM : V → V → Sto → R V := fun x y S => match x, y with
  | .ref a, .ref b => match S[a]?, S[b]? with
    | some (.lst xs), some (.lst ys) => if xs.length + ys.length ≤ lim then alloc (.lst (xs ++ ys)) S else .bad
    | _, _ => .bad
  | _, _ => .bad
theorem catM_ok : OpM X rCat catM := by
  intro W σ η S H x y u v Q hR hx hy p
  unfold catM at p
  split at p
  · rename_i a b
    split at p
    · rename_i xs ys h1 h2
      split at p
      · rename_i hl
        obtain ⟨a', ea, rfl⟩ := hx
        obtain ⟨b', eb, rfl⟩ := hy
        obtain ⟨z, us, e1, r1⟩ := hR.ob a a' _ ea h1
        obtain ⟨z2, vs, e2, r2⟩ := hR.ob b b' _ eb h2
        exact ⟨a', b', us, vs, rfl, rfl, e1, e2, by rw [← r1.length, ← r2.length]; exact hl, p.lst hR (papp r1 r2) (by rw [List.length_append]; exact hl)⟩
      · exact p.elim
    · exact p.elim
  · exact p.elim
def strM : V → V → Sto → R V := fun x y S => match x, y with
  | .str i, .str j => if i.length + j.length ≤ lim then .ok (.str (i ++ j)) S else .bad
  | _, _ => .bad
theorem strM_ok : OpM X (fun x y H Q => ∃ i j, x = .str i ∧ y = .str j ∧ i.length + j.length ≤ sizeLine ∧ Q (.str (i ++ j)) H) strM := by
  intro W σ η S H x y u v Q hR hx hy p
  unfold strM at p
  split at p
  · split at p
    · rename_i hl
      exact ⟨_, _, hx, hy, hl, p.now hR rfl⟩
    · exact p.elim
  · exact p.elim
def addM : V → V → Sto → R V := fun x y S => match x with
  | .int i => match y with
    | .int j => .ok (.int (i + j)) S
    | _ => .bad
  | .str _ => strM x y S
  | _ => catM x y S
theorem op_addA : OpR X (binaryOp .Add) (fun x y H Q => (∃ i j, x = .int i ∧ y = .int j ∧ Q (.int (i + j)) H) ∨ (∃ i j, x = .str i ∧ y = .str j ∧ i.length + j.length ≤ sizeLine ∧ Q (.str (i ++ j)) H) ∨ rCat x y H Q) := OpR.or op_add (OpR.or op_add_str op_cat)
theorem addM_ok : OpM X (fun x y H Q => (∃ i j, x = .int i ∧ y = .int j ∧ Q (.int (i + j)) H) ∨ (∃ i j, x = .str i ∧ y = .str j ∧ i.length + j.length ≤ sizeLine ∧ Q (.str (i ++ j)) H) ∨ rCat x y H Q) addM := by
  intro W σ η S H x y u v Q hR hx hy p
  cases x with
  | int i =>
    cases y with
    | int j => exact .inl ⟨i, j, hx, hy, p.now hR rfl⟩
    | _ => exact p.elim
  | str i => exact .inr (.inl (strM_ok W σ η S H _ y u v Q hR hx hy p))
  | _ => exact .inr (.inr (catM_ok W σ η S H _ y u v Q hR hx hy p))
@[simp] theorem addM_int (i j : Int) (S : Sto) : addM (.int i) (.int j) S = .ok (.int (i + j)) S := rfl
@[simp] theorem addM_ref (a : Nat) (y : V) (S : Sto) : addM (.ref a) y S = catM (.ref a) y S := rfl
@[simp] theorem addM_str (x : Str) (y : V) (S : Sto) : addM (.str x) y S = strM (.str x) y S := rfl
def subM : V → V → Sto → R V := i2 yes2 fun i j => .int (i - j)
@[simp] theorem subM_int (i j : Int) (S : Sto) : subM (.int i) (.int j) S = .ok (.int (i - j)) S := rfl
theorem subM_ok : OpM X (rI0 fun i j => .int (i - j)) subM := i20_ok fun _ _ => rfl
/-! * -/
def mulC (i j : Int) : Bool := decide (-(18446744073709551616) < i ∧ i < 18446744073709551616) || decide (-(18446744073709551616) < j ∧ j < 18446744073709551616) || decide (i.natAbs.log2 + j.natAbs.log2 < 1000000)
def repM : V → V → Sto → R V := fun x y S => match x, y with
  | .ref a, .int k => match S[a]? with
    | some (.lst xs) => if -1000 ≤ k ∧ k ≤ 1000 ∧ xs.length ≤ 1000 then alloc (.lst (List.replicate k.toNat xs).flatten) S else .bad
    | _ => .bad
  | _, _ => .bad
def mulM : V → V → Sto → R V := fun x y S => match x with
  | .int i => match y with
    | .int j => if mulC i j = true then .ok (.int (i * j)) S else .bad
    | _ => .bad
  | _ => repM x y S
theorem op_mulA : OpR X (binaryOp .Mult) (fun x y H Q => (rI CMul (fun i j => .int (i * j)) x y H Q ∨ rI CMulW (fun i j => .int (i * j)) x y H Q) ∨ rRep x y H Q) := OpR.or (OpR.or op_mul op_mulW) op_rep
theorem prep {α β : Type} {F : α → β → Prop} {xs : List α} {us : List β} (h : Paired F xs us) : ∀ k, Paired F (List.replicate k xs).flatten (List.replicate k us).flatten
  | 0 => .nil
  | k + 1 => by
    rw [List.replicate_succ, List.replicate_succ, List.flatten_cons, List.flatten_cons]
    exact papp h (prep h k)
theorem flat_len {α : Type} (xs : List α) : ∀ k, (List.replicate k xs).flatten.length = k * xs.length
  | 0 => by simp
  | k + 1 => by rw [List.replicate_succ, List.flatten_cons, List.length_append, flat_len xs k, Nat.succ_mul]; omega
theorem mulC_ok {i j : Int} (h : mulC i j = true) : CMul i j ∨ CMulW i j := by
  unfold mulC at h
  simp only [Bool.or_eq_true, decide_eq_true_eq] at h
  rcases h with (h | h) | h
  · exact .inl (.inl ⟨by omega, by omega⟩)
  · exact .inl (.inr ⟨by omega, by omega⟩)
  · exact .inr h
theorem repM_ok {W : WX} {σ : St} {x y u v : V} {Q : VK} (hR : Rel X.K η S H) (hx : VR η x u) (hy : VR η y v) (p : Po X.K X.mg W σ VR η H (repM x y S) Q) : rRep u v H Q := by
  unfold repM at p
  split at p
  · rename_i a k
    split at p
    · rename_i xs h1
      split at p
      · rename_i hk
        obtain ⟨a', ea, rfl⟩ := hx
        obtain ⟨z, us, e1, r1⟩ := hR.ob a a' _ ea h1
        have hb : xs.length * k.toNat ≤ sizeLine := by
          have h1 : xs.length * k.toNat ≤ 1000 * 1000 := Nat.mul_le_mul hk.2.2 (by omega)
          have : sizeLine = 16777216 := sizeLine_eq
          omega
        exact ⟨a', k, us, rfl, hy, e1, by omega, by omega, by rw [← r1.length]; exact hb, p.lst hR (prep r1 _) (by rw [flat_len, Nat.mul_comm]; exact hb)⟩
      · exact p.elim
    · exact p.elim
  · exact p.elim
theorem mulM_ok : OpM X (fun x y H Q => (rI CMul (fun i j => .int (i * j)) x y H Q ∨ rI CMulW (fun i j => .int (i * j)) x y H Q) ∨ rRep x y H Q) mulM := by
  intro W σ η S H x y u v Q hR hx hy p
  cases x with
  | int i =>
    cases y with
    | int j =>
      have p : Po X.K X.mg W σ VR η H (if mulC i j = true then .ok (.int (i * j)) S else .bad) Q := p
      split at p
      · rename_i h
        rcases mulC_ok h with h | h
        · exact .inl (.inl ⟨i, j, hx, hy, h, p.now hR rfl⟩)
        · exact .inl (.inr ⟨i, j, hx, hy, h, p.now hR rfl⟩)
      · exact p.elim
    | _ => exact p.elim
  | _ => exact .inr (repM_ok hR hx hy p)
theorem mulC_small {i j : Int} (h : -1000000000000000000 ≤ i ∧ i ≤ 1000000000000000000) : mulC i j = true := by
  unfold mulC
  simp only [Bool.or_eq_true, decide_eq_true_eq]
  exact .inl (.inl ⟨by omega, by omega⟩)
theorem mulC_small2 {i j : Int} (h : -1000000000000000000 ≤ j ∧ j ≤ 1000000000000000000) : mulC i j = true := by
  unfold mulC
  simp only [Bool.or_eq_true, decide_eq_true_eq]
  exact .inl (.inr ⟨by omega, by omega⟩)
/-! // % ** << >> & ^ -/
def divC (j : Int) : Bool := decide (0 < j) && decide (j.natAbs.log2 < 9000)
def fdivM : V → V → Sto → R V := i2 (fun _ j => divC j) fun i j => .int (i / j)
theorem fdivM_ok : OpM X (rI CDivW fun i j => .int (i / j)) fdivM := i2_ok (fun i j h => by
  simp only [divC, Bool.and_eq_true, decide_eq_true_eq] at h
  exact h) fun _ _ => rfl
theorem divC_small {j : Int} (h : 0 < j) (h2 : j < 18446744073709551616) : divC j = true := by
  simp only [divC, Bool.and_eq_true, decide_eq_true_eq]
  refine ⟨h, ?_⟩
  have : j.natAbs < 2 ^ 64 := by omega
  have := PySem.Flt.log2_lt_of (by decide : 0 < 64) this
  omega
def modM : V → V → Sto → R V := i2 (fun _ j => decide (0 < j)) fun i j => .int (i % j)
theorem modM_ok : OpM X (rI (fun _ j => 0 < j) fun i j => .int (i % j)) modM := i2_ok (fun i j h => by simpa using h) fun _ _ => rfl
def powC (i j : Int) : Bool := decide (0 ≤ j ∧ j ≤ 1000000 ∧ i.natAbs < 18446744073709551616)
theorem powC_ok (i j : Int) (h : powC i j = true) : CPow i j := by
  unfold powC at h
  have h := of_decide_eq_true h
  exact ⟨h.1, h.2.1, by have := h.2.2; omega⟩
def powM : V → V → Sto → R V := i2 powC fun i j => .int (i ^ j.toNat)
theorem powM_ok : OpM X (rI CPow fun i j => .int (i ^ j.toNat)) powM := i2_ok powC_ok fun _ _ => rfl
def shlM : V → V → Sto → R V := i2 powC fun i j => .int (i * 2 ^ j.toNat)
theorem shlM_ok : OpM X (rI CPow fun i j => .int (i * 2 ^ j.toNat)) shlM := i2_ok powC_ok fun _ _ => rfl
def shrM : V → V → Sto → R V := i2 (fun _ j => decide (0 ≤ j)) fun i j => .int (i / 2 ^ j.toNat)
theorem shrM_ok : OpM X (rI (fun _ j => 0 ≤ j) fun i j => .int (i / 2 ^ j.toNat)) shrM := i2_ok (fun i j h => by simpa using h) fun _ _ => rfl
def andM : V → V → Sto → R V := i2 yes2 fun i j => .int (Builtin.bitAnd i j)
theorem andM_ok : OpM X (rI0 fun i j => .int (Builtin.bitAnd i j)) andM := i20_ok fun _ _ => rfl
def xorM : V → V → Sto → R V := i2 yes2 fun i j => .int (Builtin.bitXor i j)
theorem xorM_ok : OpM X (rI0 fun i j => .int (Builtin.bitXor i j)) xorM := i20_ok fun _ _ => rfl
@[simp] theorem fdivM_int (i j : Int) (S : Sto) : fdivM (.int i) (.int j) S = if divC j = true then .ok (.int (i / j)) S else .bad := rfl
@[simp] theorem modM_int (i j : Int) (S : Sto) : modM (.int i) (.int j) S = if 0 < j then .ok (.int (i % j)) S else .bad := by
  show (if decide (0 < j) = true then _ else _) = _
  by_cases h : 0 < j <;> simp [h]
@[simp] theorem powM_int (i j : Int) (S : Sto) : powM (.int i) (.int j) S = if powC i j = true then .ok (.int (i ^ j.toNat)) S else .bad := rfl
@[simp] theorem mulM_int (i j : Int) (S : Sto) : mulM (.int i) (.int j) S = if mulC i j = true then .ok (.int (i * j)) S else .bad := rfl
@[simp] theorem mulM_ref (a : Nat) (y : V) (S : Sto) : mulM (.ref a) y S = repM (.ref a) y S := rfl
@[simp] theorem andM_int (i j : Int) (S : Sto) : andM (.int i) (.int j) S = .ok (.int (Builtin.bitAnd i j)) S := rfl
@[simp] theorem xorM_int (i j : Int) (S : Sto) : xorM (.int i) (.int j) S = .ok (.int (Builtin.bitXor i j)) S := rfl
def negM : V → Sto → R V := fun x S => match x with
  | .int i => .ok (.int (-i)) S
  | _ => .bad
theorem negM_ok : UnM X (rU fun i => .int (-i)) negM := by
  intro W σ η S H x u Q hR hx p
  cases x with
  | int i => exact ⟨i, hx, p.now hR rfl⟩
  | _ => exact p.elim
@[simp] theorem negM_int (i : Int) (S : Sto) : negM (.int i) S = .ok (.int (-i)) S := rfl
/-! ### comparisons -/
def ltM : V → V → Sto → R V := i2 yes2 fun i j => .bl (decide (i < j))
theorem ltM_ok : OpM X (rI0 fun i j => .bl (decide (i < j))) ltM := i20_ok fun _ _ => rfl
def leM : V → V → Sto → R V := i2 yes2 fun i j => .bl (decide (i ≤ j))
theorem leM_ok : OpM X (rI0 fun i j => .bl (decide (i ≤ j))) leM := i20_ok fun _ _ => rfl
def gtM : V → V → Sto → R V := i2 yes2 fun i j => .bl (decide (j < i))
theorem gtM_ok : OpM X (rI0 fun i j => .bl (decide (j < i))) gtM := i20_ok fun _ _ => rfl
def geM : V → V → Sto → R V := i2 yes2 fun i j => .bl (decide (j ≤ i))
theorem geM_ok : OpM X (rI0 fun i j => .bl (decide (j ≤ i))) geM := i20_ok fun _ _ => rfl
@[simp] theorem ltM_int (i j : Int) (S : Sto) : ltM (.int i) (.int j) S = .ok (.bl (decide (i < j))) S := rfl
@[simp] theorem leM_int (i j : Int) (S : Sto) : leM (.int i) (.int j) S = .ok (.bl (decide (i ≤ j))) S := rfl
@[simp] theorem gtM_int (i j : Int) (S : Sto) : gtM (.int i) (.int j) S = .ok (.bl (decide (j < i))) S := rfl
@[simp] theorem geM_int (i j : Int) (S : Sto) : geM (.int i) (.int j) S = .ok (.bl (decide (j ≤ i))) S := rfl
def isNM : V → V → Sto → R V := fun x y S => match y with
  | .non => .ok (.bl (decide (x = .non))) S
  | _ => .bad
def notNM : V → V → Sto → R V := fun x y S => match y with
  | .non => .ok (.bl (!decide (x = .non))) S
  | _ => .bad
theorem VR.non {x u : V} (h : VR η x u) : decide (u = .non) = decide (x = .non) := by
  cases x with
  | ref n => obtain ⟨a, _, rfl⟩ := h; rfl
  | _ => rw [show u = _ from h]
theorem isNM_ok : OpM X (fun x y H Q => y = .non ∧ Q (V.bl (decide (x = .non))) H) isNM := by
  intro W σ η S H x y u v Q hR hx hy p
  cases y with
  | non => exact ⟨hy, p.now hR (show V.bl (decide (u = .non)) = V.bl (decide (x = .non)) by rw [hx.non])⟩
  | _ => exact p.elim
theorem notNM_ok : OpM X (fun x y H Q => y = .non ∧ Q (V.bl (!decide (x = .non))) H) notNM := by
  intro W σ η S H x y u v Q hR hx hy p
  cases y with
  | non => exact ⟨hy, p.now hR (show V.bl (!decide (u = .non)) = V.bl (!decide (x = .non)) by rw [hx.non])⟩
  | _ => exact p.elim
/-- the data that a value stands for -/
def toD : Nat → Sto → V → Option PyData
  | 0, _, _ => none
  | n + 1, S, v => match v with
    | .non => some .none
    | .bl b => some (.bool b)
    | .int i => some (.int i)
    | .str x => some (.str x)
    | .ref a => match S[a]? with
      | some (.lst xs) => (xs.mapM (toD n S)).map .list
      | some (.frl xs) => (xs.mapM (toD n S)).map .list
      | some (.tup xs) => (xs.mapM (toD n S)).map .tuple
      | _ => none
    | _ => none
theorem toD_ok (hR : Rel K η S H) : ∀ (n : Nat) (v u : V) (d : PyData), toD n S v = some d → VR η v u → Dp K H u d
  | 0, _, _, _, h, _ => by cases h
  | n + 1, v, u, d, h, r => by
    have all : ∀ (xs us : List V) (ds : List PyData), xs.mapM (toD n S) = some ds → VsR η xs us → DpAll K H us ds := by
      intro xs
      induction xs with
      | nil =>
        intro us ds h r
        cases r
        simp at h
        subst h
        exact .nil
      | cons x xs ih =>
        intro us ds h r
        cases r with
        | cons r1 r2 =>
          rw [List.mapM_cons] at h
          cases hx : toD n S x with
          | none => rw [hx] at h; simp at h
          | some dx =>
            rw [hx] at h
            cases hxs : xs.mapM (toD n S) with
            | none => rw [hxs] at h; simp at h
            | some dxs =>
              rw [hxs] at h
              simp at h
              subst h
              exact .cons (toD_ok hR n x _ dx hx r1) (ih _ dxs hxs r2)
    cases v with
    | non => cases h; rw [show u = V.non from r]; exact .non
    | bl b => cases h; rw [show u = V.bl b from r]; exact .bl b
    | int b => cases h; rw [show u = V.int b from r]; exact .int b
    | str b => cases h; rw [show u = V.str b from r]; exact .str b
    | byt b => cases h
    | flt b => cases h
    | ty b => cases h
    | ref a =>
      have h : (match S[a]? with
        | some (.lst xs) => (xs.mapM (toD n S)).map .list
        | some (.frl xs) => (xs.mapM (toD n S)).map .list
        | some (.tup xs) => (xs.mapM (toD n S)).map .tuple
        | _ => none) = some d := h
      split at h
      · rename_i xs hx
        obtain ⟨a', us, rfl, e, r2, _⟩ := rdL_ok (v := .ref a) (xs := xs) (by simp [rdL, hx]) hR r
        cases hm : xs.mapM (toD n S) with
        | none => rw [hm] at h; cases h
        | some ds => rw [hm] at h; cases h; exact .lst e (all xs us ds hm r2)
      · rename_i xs hx
        obtain ⟨a', us, rfl, e, r2, _⟩ := rdL_ok (v := .ref a) (xs := xs) (by simp [rdL, hx]) hR r
        cases hm : xs.mapM (toD n S) with
        | none => rw [hm] at h; cases h
        | some ds => rw [hm] at h; cases h; exact .lst e (all xs us ds hm r2)
      · rename_i xs hx
        obtain ⟨a', us, rfl, e, r2, _⟩ := rdT_ok (v := .ref a) (xs := xs) (by simp [rdT, hx]) hR r
        cases hm : xs.mapM (toD n S) with
        | none => rw [hm] at h; cases h
        | some ds => rw [hm] at h; cases h; exact .tup (SqT.of e) (all xs us ds hm r2)
      · cases h
def eqB (x y : V) (S : Sto) : Option Bool := match toD 5 S x, toD 5 S y with
  | some d, some e => if SeqAt.shaped d = true ∧ SeqAt.shaped e = true then some (PyData.eqv d e) else none
  | _, _ => none
def eqM : V → V → Sto → R V := fun x y S => match eqB x y S with
  | some b => .ok (.bl b) S
  | none => .bad
def neM : V → V → Sto → R V := fun x y S => match eqB x y S with
  | some b => .ok (.bl (!b)) S
  | none => .bad
theorem eqB_ok {x y u v : V} {b : Bool} (hR : Rel K η S H) (hx : VR η x u) (hy : VR η y v) (h : eqB x y S = some b) : ∃ d e, Dp K H u d ∧ Dp K H v e ∧ SeqAt.shaped d = true ∧ SeqAt.shaped e = true ∧ b = PyData.eqv d e := by
  unfold eqB at h
  split at h
  · rename_i d e hd he
    split at h
    · rename_i hs
      cases h
      exact ⟨d, e, toD_ok hR 5 x u d hd hx, toD_ok hR 5 y v e he hy, hs.1, hs.2, rfl⟩
    · cases h
  · cases h
theorem eqM_ok : OpM X (rEqD X.K) eqM := by
  intro W σ η S H x y u v Q hR hx hy p
  unfold eqM at p
  cases h : eqB x y S with
  | none => rw [h] at p; exact p.elim
  | some b =>
    rw [h] at p
    obtain ⟨d, e, h1, h2, h3, h4, rfl⟩ := eqB_ok hR hx hy h
    exact ⟨d, e, h1, h2, h3, h4, p.now hR rfl⟩
theorem neM_ok : OpM X (rNeD X.K) neM := by
  intro W σ η S H x y u v Q hR hx hy p
  unfold neM at p
  cases h : eqB x y S with
  | none => rw [h] at p; exact p.elim
  | some b =>
    rw [h] at p
    obtain ⟨d, e, h1, h2, h3, h4, rfl⟩ := eqB_ok hR hx hy h
    exact ⟨d, e, h1, h2, h3, h4, p.now hR rfl⟩
@[simp] theorem eqM_int (i j : Int) (S : Sto) : eqM (.int i) (.int j) S = .ok (.bl (decide (i = j))) S := by
  show R.ok (V.bl (i == j)) S = _
  rw [Bool.beq_eq_decide_eq]
@[simp] theorem neM_int (i j : Int) (S : Sto) : neM (.int i) (.int j) S = .ok (.bl (!decide (i = j))) S := by
  show R.ok (V.bl (!(i == j))) S = _
  rw [Bool.beq_eq_decide_eq]
/-! ### in -/
def rdLT (v : V) (S : Sto) : Option (List V) := match v with
  | .ref n => match S[n]? with
    | some (.lst xs) => some xs
    | some (.frl xs) => some xs
    | some (.tup xs) => some xs
    | _ => none
  | _ => none
theorem rdLT_ok {v u : V} {xs : List V} (h : rdLT v S = some xs) (r : Rel K η S H) (q : VR η v u) : ∃ a us, u = .ref a ∧ (SqL K H a us ∨ SqT K H a us) ∧ VsR η xs us ∧ xs.length ≤ sizeLine := by
  cases v with
  | ref n =>
    unfold rdLT at h
    cases ho : S[n]? with
    | none => simp [ho] at h
    | some o =>
      cases o with
      | lst ys =>
        simp [ho] at h
        subst h
        obtain ⟨a, us, h1, h2, h3, h4⟩ := rdL_ok (v := .ref n) (xs := ys) (by simp [rdL, ho]) r q
        exact ⟨a, us, h1, .inl h2, h3, h4⟩
      | frl ys =>
        simp [ho] at h
        subst h
        obtain ⟨a, us, h1, h2, h3, h4⟩ := rdL_ok (v := .ref n) (xs := ys) (by simp [rdL, ho]) r q
        exact ⟨a, us, h1, .inl h2, h3, h4⟩
      | tup ys =>
        simp [ho] at h
        subst h
        obtain ⟨a, us, h1, h2, h3, h4⟩ := rdT_ok (v := .ref n) (xs := ys) (by simp [rdT, ho]) r q
        exact ⟨a, us, h1, .inr (SqT.of h2), h3, h4⟩
      | _ => simp [ho] at h
  | _ => cases h
theorem VR.flat {x u : V} (f : flatV x = true) (h : VR η x u) : u = x := by
  cases x with
  | ref n => cases f
  | byt n => cases f
  | _ => exact h
theorem VsR.flat {xs us : List V} (f : xs.all flatV = true) (h : VsR η xs us) : us = xs := by
  induction h with
  | nil => rfl
  | cons r t ih =>
    rw [List.all_cons, Bool.and_eq_true] at f
    rw [VR.flat f.1 r, ih f.2]
def inM (neg : Bool) : V → V → Sto → R V := fun x y S => match rdLT y S with
  | some xs => if flatV x = true ∧ xs.all flatV = true then .ok (.bl (if neg then !inV x xs else inV x xs)) S else .bad
  | none => .bad
theorem inM_ok {neg : Bool} : OpM X (rIn X.K neg) (inM neg) := by
  intro W σ η S H x y u v Q hR hx hy p
  unfold inM at p
  cases h : rdLT y S with
  | none => rw [h] at p; exact p.elim
  | some xs =>
    rw [h] at p
    dsimp only at p
    split at p
    · rename_i hf
      obtain ⟨a, us, rfl, hq, r, _⟩ := rdLT_ok h hR hy
      have e1 := VR.flat hf.1 hx
      have e2 := VsR.flat hf.2 r
      subst e1; subst e2
      exact ⟨a, us, rfl, hq, hf.1, hf.2, p.now hR rfl⟩
    · exact p.elim
/-! ### subscripts -/
def ixS (z : Str) : V → Sto → R V := fun y S => match y with
  | .int i => if z.length ≤ lim then (match atI z.cps.toList i with
      | some c => .ok (.str ⟨#[c]⟩) S
      | none => .bad) else .bad
  | _ => .bad
def ixQ (x : V) : V → Sto → R V := fun y S => match y with
  | .int i => match rdLT x S with
    | some xs => match atI xs i with
      | some v => .ok v S
      | none => .bad
    | none => .bad
  | _ => .bad
def ixM : V → V → Sto → R V := fun x y S => match x with
  | .str z => ixS z y S
  | x => ixQ x y S
@[simp] theorem ixM_ref (a : Nat) (y : V) (S : Sto) : ixM (.ref a) y S = ixQ (.ref a) y S := rfl
@[simp] theorem ixM_str (z : Str) (y : V) (S : Sto) : ixM (.str z) y S = ixS z y S := rfl
theorem pat {xs us : List V} {i : Int} {x : V} (h : VsR η xs us) (e : atI xs i = some x) : ∃ u, atI us i = some u ∧ VR η x u := by
  unfold atI at e ⊢
  rw [← h.length]
  cases hi : ixN xs.length i with
  | none => rw [hi] at e; cases e
  | some j =>
    rw [hi] at e
    exact pget h e
theorem ixQ_ok {W : WX} {σ : St} {x y u v : V} {Q : VK} (hR : Rel X.K η S H) (hx : VR η x u) (hy : VR η y v) (p : Po X.K X.mg W σ VR η H (ixQ x y S) Q) : rIx X.K u v H Q := by
  unfold ixQ at p
  split at p
  · split at p
    · rename_i i _ xs h
      split at p
      · rename_i w hw
        obtain ⟨a, us, rfl, hq, r, _⟩ := rdLT_ok h hR hx
        obtain ⟨w', e, rw'⟩ := pat r hw
        rcases hq with hq | hq
        · exact .inl ⟨a, us, _, w', rfl, hy, hq, e, p.now hR rw'⟩
        · exact .inr (.inl ⟨a, us, _, w', rfl, hy, hq, e, p.now hR rw'⟩)
      · exact p.elim
    · exact p.elim
  · exact p.elim
theorem ixS_ok {W : WX} {σ : St} {z : Str} {y u v : V} {Q : VK} (hR : Rel X.K η S H) (hx : VR η (.str z) u) (hy : VR η y v) (p : Po X.K X.mg W σ VR η H (ixS z y S) Q) : rIx X.K u v H Q := by
  unfold ixS at p
  split at p
  · split at p
    · rename_i hl
      split at p
      · rename_i c hc
        exact .inr (.inr ⟨z, _, c, hx, hy, hl, hc, p.now hR rfl⟩)
      · exact p.elim
    · exact p.elim
  · exact p.elim
theorem ixM_ok : OpM X (rIx X.K) ixM := by
  intro W σ η S H x y u v Q hR hx hy p
  cases x with
  | str z => exact ixS_ok hR hx hy p
  | _ => exact ixQ_ok hR hx hy p
theorem get_list : PGet X (rIxL X.K) := by
  intro pins s σ H o i ov iv Q I ro ri h
  obtain ⟨p, xs, k, z, rfl, rfl, hq, he, q⟩ := h
  cases ro
  obtain ⟨t, rfl⟩ := ri
  obtain ⟨its, r, pl, hz⟩ := I.list hq
  obtain ⟨j, h1, h2, h3, h4, h5⟩ := atI_get he
  obtain ⟨w, ew, rw'⟩ := r.get h2
  have hl := r.length
  have hn := line63
  have fin : EP X pins σ Q w s := ⟨z, H, I, rw', q⟩
  by_cases h0 : 0 ≤ k
  · have hj : k.toNat = j := by
      rw [seqIndex_of h0 h5] at h1
      exact Option.some.inj h1
    exact wpAny_getItem_list pl.isList h0 (by omega) (by rw [hj]; simpa using ew) fin
  · have hj : (k + (its.toArray.size : Int)).toNat = j := by
      rw [seqIndex_neg (by omega) h4] at h1
      rw [List.size_toArray, ← hl]
      exact Option.some.inj h1
    exact wpAny_getItem_list_neg pl.isList (by omega) (by rw [List.size_toArray]; omega) (by omega) (by rw [hj]; simpa using ew) fin
def getL : V → V → Sto → R V := fun x y S => match y with
  | .int i => match rdL x S with
    | some xs => match atI xs i with
      | some v => .ok v S
      | none => .bad
    | none => .bad
  | _ => .bad
theorem getL_ok : OpM X (rIxL X.K) getL := by
  intro W σ η S H x y u v Q hR hx hy p
  unfold getL at p
  split at p
  · rename_i i
    split at p
    · rename_i xs h
      split at p
      · rename_i w hw
        obtain ⟨a, us, rfl, hq, r, _⟩ := rdL_ok h hR hx
        obtain ⟨w', e, rw'⟩ := pat r hw
        exact ⟨a, us, i, w', rfl, hy, hq, e, p.now hR rw'⟩
      · exact p.elim
    · exact p.elim
  · exact p.elim
def ipAdd : V → V → Sto → R V := i2 yes2 fun i j => .int (i + j)
def ipSub : V → V → Sto → R V := i2 yes2 fun i j => .int (i - j)
theorem ipAdd_ok : IpM X (ipI fun i j => i + j) ipAdd := by
  intro W σ η S H x y u v Q hR hx hy p
  exact i20_ok (X := X) (g := fun i j => .int (i + j)) (fun _ _ => rfl) W σ η S H x y u v Q hR hx hy p
theorem ipSub_ok : IpM X (ipI fun i j => i - j) ipSub := by
  intro W σ η S H x y u v Q hR hx hy p
  exact i20_ok (X := X) (g := fun i j => .int (i - j)) (fun _ _ => rfl) W σ η S H x y u v Q hR hx hy p
@[simp] theorem ipAdd_int (i j : Int) (S : Sto) : ipAdd (.int i) (.int j) S = .ok (.int (i + j)) S := rfl
@[simp] theorem ipSub_int (i j : Int) (S : Sto) : ipSub (.int i) (.int j) S = .ok (.int (i - j)) S := rfl
/-! slices -/
def tPt (m : Option (St → Sto → R V)) : St → Sto → R (Option Int) := fun σ S => match m with
  | none => .ok none S
  | some m => (m σ S).bind fun v S1 => match v with
    | .int i => .ok (some i) S1
    | _ => .bad
structure FO (X : Cx) (W : WX) (e : Option Expr) (m : Option (St → Sto → R V)) : Prop where
  run : ∃ t, PO X e t ∧ ∀ η S H σ0 σ Q, Rel X.K η S H → SR η σ0 σ → Po X.K X.mg W σ (fun _ a b => b = a) η H (tPt m σ0 S) Q → t σ H Q
theorem fo_none {W : WX} : FO X W none none := ⟨_, po_none, fun η S H σ0 σ Q hR hS p => p.now hR rfl⟩
theorem fo_some {W : WX} {e : Expr} {m : St → Sto → R V} (h : FE X W e m) : FO X W (some e) (some m) := ⟨_, po_some h.run, fun η S H σ0 σ Q hR hS p => by
  refine ⟨η, S, σ0, hR, hS, (Po.bind (rel := VR) p).imp fun u H1 ⟨η1, S1, v, e1, hR1, r1, p1⟩ => ?_⟩
  cases v with
  | int i => exact ⟨i, r1, p1.now hR1 rfl⟩
  | _ => exact p1.elim⟩
def cutM : V → Option Int → Option Int → Sto → R V := fun x lo hi S => match x with
  | .ref n => match rdL x S with
    | some xs => alloc (.lst (cutV xs lo hi)) S
    | none => match rdT x S with
      | some xs => if HT.sIx xs.length 0 lo = 0 ∧ HT.sIx xs.length xs.length hi = xs.length then .bad else alloc (.tup (cutV xs lo hi)) S
      | none => .bad
  | .str z => if z.length ≤ lim then .ok (.str (cutS z lo hi)) S else .bad
  | _ => .bad
def eSl (m : St → Sto → R V) (ml mh : Option (St → Sto → R V)) : St → Sto → R V := fun σ S => (m σ S).bind fun x S1 => (tPt ml σ S1).bind fun lo S2 => (tPt mh σ S2).bind fun hi S3 => cutM x lo hi S3
theorem pcut {xs us : List V} {lo hi : Option Int} (h : VsR η xs us) : VsR η (cutV xs lo hi) (cutV us lo hi) := by
  unfold cutV
  rw [← h.length]
  exact ptake _ (pdrop _ h)
end
end Fx
/-! Fx: built-ins and methods by values. -/
namespace Fx
open PySem PySem.Spec L2
open PyProof.Rows hiding St
variable {K : PySem.W.Frag} {η : List Addr} {S : Sto} {H : Hp}
section
variable {X : Cx}
/-! slices -/
theorem fe_sl {W : WX} {e : Expr} {lo hi : Option Expr} {m : St → Sto → R V} {ml mh : Option (St → Sto → R V)} {pos p2 : Pos} (he : FE X W e m) (hl : FO X W lo ml) (hh : FO X W hi mh) : FE X W (.Subscript e (.Slice lo hi none p2) pos) (eSl m ml mh) := by
  obtain ⟨tl, h1, h2⟩ := hl.run
  obtain ⟨th, h3, h4⟩ := hh.run
  refine ⟨PE.wk (pe_slice (sl_list.or (sl_tup.or sl_str)) he.run h1 h3) fun σ H Q h => ?_⟩
  obtain ⟨η, S, σ0, hR, hS, p⟩ := h
  refine ⟨η, S, σ0, hR, hS, (Po.bind (rel := VR) p).imp fun u H1 ⟨η1, S1, x, e1, hR1, rx, p1⟩ => ?_⟩
  refine h2 η1 S1 H1 σ0 σ _ hR1 (hS.mono e1.1) ((Po.bind (rel := fun _ a b => b = a) p1).imp fun l H2 ⟨η2, S2, l', e2, hR2, rl, p2⟩ => ?_)
  subst rl
  refine h4 η2 S2 H2 σ0 σ _ hR2 (hS.mono (e1.1.trans e2.1)) ((Po.bind (rel := fun _ a b => b = a) p2).imp fun g H3 ⟨η3, S3, g', e3, hR3, rg, p3⟩ => ?_)
  subst rg
  have rx := rx.mono (e2.1.trans e3.1)
  unfold cutM at p3
  cases x with
  | ref n =>
    dsimp only at p3
    cases hd : rdL (.ref n) S3 with
    | some xs =>
      rw [hd] at p3
      obtain ⟨a, us, rfl, hq, r, z⟩ := rdL_ok hd hR3 rx
      exact .inl ⟨a, us, rfl, hq, p3.lst hR3 (pcut r) (Nat.le_trans (cutV_length _ _ _) z)⟩
    | none =>
      rw [hd] at p3
      dsimp only at p3
      cases ht : rdT (.ref n) S3 with
      | some xs =>
        rw [ht] at p3
        dsimp only at p3
        split at p3
        · exact p3.elim
        · rename_i hw
          obtain ⟨a, us, rfl, hq, r, z⟩ := rdT_ok ht hR3 rx
          exact .inr (.inl ⟨a, us, rfl, SqT.of hq, by rw [← r.length]; exact hw, p3.tup hR3 (pcut r) (Nat.le_trans (cutV_length _ _ _) z)⟩)
      | none => rw [ht] at p3; exact p3.elim
  | str z =>
    dsimp only at p3
    split at p3
    · rename_i hz
      exact .inr (.inr ⟨z, rx, hz, p3.now hR3 rfl⟩)
    · exact p3.elim
  | _ => exact p3.elim
/-! ### built-ins -/
def lenM : List V → Sto → R V := fun vs S => match vs with
  | [.str z] => if z.length ≤ lim then .ok (.int z.length) S else .bad
  | [x] => match rdLT x S with
    | some xs => .ok (.int xs.length) S
    | none => .bad
  | _ => .bad
theorem lenM_ok : CallM X (fun xs H Q => ∃ x n, xs = [x] ∧ LenV X.K x H n ∧ Q (.int n) H) lenM := by
  intro W σ η S H xs us Q hR hx p
  unfold lenM at p
  split at p
  · rename_i z
    obtain ⟨u, rfl, r⟩ := VsR.one hx
    cases (show u = V.str z from r)
    split at p
    · rename_i hz
      exact ⟨_, _, rfl, ⟨hz, rfl⟩, p.now hR rfl⟩
    · exact p.elim
  · rename_i x _
    obtain ⟨u, rfl, r⟩ := VsR.one hx
    split at p
    · rename_i xs h
      obtain ⟨a, us, rfl, hq, r2, _⟩ := rdLT_ok h hR r
      refine ⟨_, us.length, rfl, ?_, p.now hR (show V.int us.length = V.int xs.length by rw [r2.length])⟩
      rcases hq with hq | hq
      · exact .inl ⟨us, hq, rfl⟩
      · exact .inr ⟨us, hq, rfl⟩
    · exact p.elim
  · exact p.elim
def listM : List V → Sto → R V := fun vs S => match vs with
  | [x] => match rdLT x S with
    | some xs => alloc (.lst xs) S
    | none => .bad
  | _ => .bad
theorem listM_ok : CallM X (fun xs H Q => ∃ p ys, xs = [.ref p] ∧ (SqL X.K H p ys ∨ SqT X.K H p ys) ∧ ∀ l, H l = none → Q (.ref l) (upd H l (.lst ys))) listM := by
  intro W σ η S H xs us Q hR hx p
  unfold listM at p
  split at p
  · rename_i x
    obtain ⟨u, rfl, r⟩ := VsR.one hx
    split at p
    · rename_i xs h
      obtain ⟨a, us, rfl, hq, r2, z⟩ := rdLT_ok h hR r
      exact ⟨a, us, rfl, hq, p.lst hR r2 z⟩
    · exact p.elim
  · exact p.elim
def tupleM : List V → Sto → R V := fun vs S => match vs with
  | [x] => match rdL x S with
    | some xs => alloc (.tup xs) S
    | none => match rdT x S with
      | some _ => .ok x S
      | none => .bad
  | _ => .bad
theorem tupleM_ok : CallM X (fun xs H Q => ∃ p ys, xs = [.ref p] ∧ ((SqL X.K H p ys ∧ ∀ l, H l = none → Q (.ref l) (upd H l (.tup ys))) ∨ (SqT X.K H p ys ∧ Q (.ref p) H))) tupleM := by
  intro W σ η S H xs us Q hR hx p
  unfold tupleM at p
  split at p
  · rename_i x
    obtain ⟨u, rfl, r⟩ := VsR.one hx
    split at p
    · rename_i xs h
      obtain ⟨a, us, rfl, hq, r2, z⟩ := rdL_ok h hR r
      exact ⟨a, us, rfl, .inl ⟨hq, p.tup hR r2 z⟩⟩
    · split at p
      · rename_i xs h
        obtain ⟨a, us, rfl, hq, r2, z⟩ := rdT_ok h hR r
        exact ⟨a, us, rfl, .inr ⟨SqT.of hq, p.now hR r⟩⟩
      · exact p.elim
  · exact p.elim
/-- all ints -/
def allI : List V → Option (List Int)
  | [] => some []
  | .int i :: vs => (allI vs).map (i :: ·)
  | _ :: _ => none
theorem allI_eq : ∀ {vs : List V} {ns : List Int}, allI vs = some ns → vs = ns.map V.int
  | [], ns, h => by cases h; rfl
  | .int i :: vs, ns, h => by
    unfold allI at h
    cases e : allI vs with
    | none => rw [e] at h; cases h
    | some ms => rw [e] at h; cases h; rw [allI_eq e]; rfl
  | .non :: _, _, h => by cases h
  | .bl _ :: _, _, h => by cases h
  | .str _ :: _, _, h => by cases h
  | .byt _ :: _, _, h => by cases h
  | .flt _ :: _, _, h => by cases h
  | .ref _ :: _, _, h => by cases h
  | .ty _ :: _, _, h => by cases h
@[simp] theorem allI_map : ∀ ns : List Int, allI (ns.map V.int) = some ns
  | [] => rfl
  | n :: ns => by
    show (allI (ns.map V.int)).map (n :: ·) = _
    rw [allI_map ns]; rfl
theorem VsR.ints {ns : List Int} {us : List V} (h : VsR η (ns.map V.int) us) : us = ns.map V.int := by
  refine VsR.flat ?_ h
  rw [List.all_map]
  exact List.all_eq_true.mpr fun _ _ => rfl
def rdI (x : V) (S : Sto) : Option (List Int) := (rdL x S).bind allI
theorem rdI_ok {x u : V} {ns : List Int} (h : rdI x S = some ns) (hR : Rel K η S H) (r : VR η x u) : ∃ a, u = .ref a ∧ SqL K H a (ns.map V.int) ∧ ns.length ≤ sizeLine := by
  unfold rdI at h
  cases e : rdL x S with
  | none => rw [e] at h; cases h
  | some xs =>
    rw [e] at h
    have e2 := allI_eq (show allI xs = some ns from h)
    subst e2
    obtain ⟨a, us, rfl, hq, r2, z⟩ := rdL_ok e hR r
    rw [VsR.ints r2] at hq
    exact ⟨a, rfl, hq, by simpa using z⟩
def sumM : List V → Sto → R V := fun vs S => match vs with
  | [x] => match rdI x S with
    | some ns => .ok (.int ns.sum) S
    | none => .bad
  | _ => .bad
theorem sumM_ok : CallM X (rSum X.K) sumM := by
  intro W σ η S H xs us Q hR hx p
  unfold sumM at p
  split at p
  · rename_i x
    obtain ⟨u, rfl, r⟩ := VsR.one hx
    split at p
    · rename_i ns h
      obtain ⟨a, rfl, hq, _⟩ := rdI_ok h hR r
      exact ⟨a, ns, rfl, hq, p.now hR rfl⟩
    · exact p.elim
  · exact p.elim
def maxL : List Int → Int
  | [] => 0
  | n :: ns => ns.foldl max n
def minL : List Int → Int
  | [] => 0
  | n :: ns => ns.foldl min n
theorem foldl_max (ns : List Int) : ∀ n : Int, (ns.foldl max n = n ∨ ns.foldl max n ∈ ns) ∧ n ≤ ns.foldl max n ∧ ∀ y ∈ ns, y ≤ ns.foldl max n := by
  induction ns with
  | nil => intro n; exact ⟨.inl rfl, Int.le_refl _, fun _ h => nomatch h⟩
  | cons k ns ih =>
    intro n
    obtain ⟨h1, h2, h3⟩ := ih (max n k)
    rw [List.foldl_cons]
    refine ⟨?_, by omega, fun y hy => ?_⟩
    · rcases h1 with h1 | h1
      · by_cases h : n ≤ k
        · right; rw [h1, Int.max_eq_right h]; exact List.mem_cons_self
        · left; rw [h1, Int.max_eq_left (by omega)]
      · right; exact List.mem_cons_of_mem _ h1
    · rcases List.mem_cons.mp hy with rfl | hy
      · omega
      · exact h3 y hy
theorem foldl_min (ns : List Int) : ∀ n : Int, (ns.foldl min n = n ∨ ns.foldl min n ∈ ns) ∧ ns.foldl min n ≤ n ∧ ∀ y ∈ ns, ns.foldl min n ≤ y := by
  induction ns with
  | nil => intro n; exact ⟨.inl rfl, Int.le_refl _, fun _ h => nomatch h⟩
  | cons k ns ih =>
    intro n
    obtain ⟨h1, h2, h3⟩ := ih (min n k)
    rw [List.foldl_cons]
    refine ⟨?_, by omega, fun y hy => ?_⟩
    · rcases h1 with h1 | h1
      · by_cases h : n ≤ k
        · left; rw [h1, Int.min_eq_left h]
        · right; rw [h1, Int.min_eq_right (by omega)]; exact List.mem_cons_self
      · right; exact List.mem_cons_of_mem _ h1
    · rcases List.mem_cons.mp hy with rfl | hy
      · omega
      · exact h3 y hy
theorem maxL_spec {ns : List Int} (h : 0 < ns.length) : maxL ns ∈ ns ∧ ∀ y ∈ ns, y ≤ maxL ns := by
  cases ns with
  | nil => cases h
  | cons n ns =>
    obtain ⟨h1, h2, h3⟩ := foldl_max ns n
    refine ⟨?_, fun y hy => ?_⟩
    · rcases h1 with h1 | h1
      · show ns.foldl max n ∈ _
        rw [h1]; exact List.mem_cons_self
      · exact List.mem_cons_of_mem _ h1
    · rcases List.mem_cons.mp hy with rfl | hy
      · exact h2
      · exact h3 y hy
theorem minL_spec {ns : List Int} (h : 0 < ns.length) : minL ns ∈ ns ∧ ∀ y ∈ ns, minL ns ≤ y := by
  cases ns with
  | nil => cases h
  | cons n ns =>
    obtain ⟨h1, h2, h3⟩ := foldl_min ns n
    refine ⟨?_, fun y hy => ?_⟩
    · rcases h1 with h1 | h1
      · show ns.foldl min n ∈ _
        rw [h1]; exact List.mem_cons_self
      · exact List.mem_cons_of_mem _ h1
    · rcases List.mem_cons.mp hy with rfl | hy
      · exact h2
      · exact h3 y hy
def maxM : List V → Sto → R V := fun vs S => match vs with
  | [.int i, .int j] => .ok (.int (if j > i then j else i)) S
  | [x] => match rdI x S with
    | some ns => if 0 < ns.length then .ok (.int (maxL ns)) S else .bad
    | none => .bad
  | _ => .bad
def minM : List V → Sto → R V := fun vs S => match vs with
  | [.int i, .int j] => .ok (.int (if j < i then j else i)) S
  | [x] => match rdI x S with
    | some ns => if 0 < ns.length then .ok (.int (minL ns)) S else .bad
    | none => .bad
  | _ => .bad
theorem call_maxA (hc : X.calm = true) : CallR X (.builtin "max") (fun xs H Q => (∃ i j, xs = [.int i, .int j] ∧ Q (.int (if j > i then j else i)) H) ∨ rMax X.K xs H Q) := CallR.or (call_max2 hc) (cr_max hc)
theorem call_minA (hc : X.calm = true) : CallR X (.builtin "min") (fun xs H Q => (∃ i j, xs = [.int i, .int j] ∧ Q (.int (if j < i then j else i)) H) ∨ rMin X.K xs H Q) := CallR.or (call_min2 hc) (cr_min hc)
theorem maxM_ok : CallM X (fun xs H Q => (∃ i j, xs = [.int i, .int j] ∧ Q (.int (if j > i then j else i)) H) ∨ rMax X.K xs H Q) maxM := by
  intro W σ η S H xs us Q hR hx p
  unfold maxM at p
  split at p
  · rename_i i j
    rw [VsR.int2 hx]
    exact .inl ⟨i, j, rfl, p.now hR rfl⟩
  · rename_i x
    obtain ⟨u, rfl, r⟩ := VsR.one hx
    split at p
    · rename_i ns h
      split at p
      · rename_i h0
        obtain ⟨a, rfl, hq, _⟩ := rdI_ok h hR r
        obtain ⟨m1, m2⟩ := maxL_spec h0
        refine .inr ⟨a, ns, rfl, hq, h0, fun m hm hle => ?_⟩
        have : m = maxL ns := Int.le_antisymm (m2 m hm) (hle _ m1)
        rw [this]
        exact p.now hR rfl
      · exact p.elim
    · exact p.elim
  · exact p.elim
theorem minM_ok : CallM X (fun xs H Q => (∃ i j, xs = [.int i, .int j] ∧ Q (.int (if j < i then j else i)) H) ∨ rMin X.K xs H Q) minM := by
  intro W σ η S H xs us Q hR hx p
  unfold minM at p
  split at p
  · rename_i i j
    rw [VsR.int2 hx]
    exact .inl ⟨i, j, rfl, p.now hR rfl⟩
  · rename_i x
    obtain ⟨u, rfl, r⟩ := VsR.one hx
    split at p
    · rename_i ns h
      split at p
      · rename_i h0
        obtain ⟨a, rfl, hq, _⟩ := rdI_ok h hR r
        obtain ⟨m1, m2⟩ := minL_spec h0
        refine .inr ⟨a, ns, rfl, hq, h0, fun m hm hle => ?_⟩
        have : m = minL ns := Int.le_antisymm (hle _ m1) (m2 m hm)
        rw [this]
        exact p.now hR rfl
      · exact p.elim
    · exact p.elim
  · exact p.elim
def absM : List V → Sto → R V := fun vs S => match vs with
  | [.int i] => .ok (.int (if i < 0 then -i else i)) S
  | _ => .bad
theorem absM_ok : CallM X (fun xs H Q => ∃ i, xs = [.int i] ∧ Q (.int (if i < 0 then -i else i)) H) absM := by
  intro W σ η S H xs us Q hR hx p
  unfold absM at p
  split at p
  · rw [VsR.int1 hx]
    exact ⟨_, rfl, p.now hR rfl⟩
  · exact p.elim
def intM : List V → Sto → R V := fun vs S => match vs with
  | [.int i] => .ok (.int i) S
  | [.bl k] => .ok (.int (if k then 1 else 0)) S
  | _ => .bad
theorem intM_ok : CallM X (fun xs H Q => (∃ i, xs = [.int i] ∧ Q (.int i) H) ∨ ∃ k, xs = [.bl k] ∧ Q (.int (if k then 1 else 0)) H) intM := by
  intro W σ η S H xs us Q hR hx p
  unfold intM at p
  split at p
  · rw [VsR.int1 hx]
    exact .inl ⟨_, rfl, p.now hR rfl⟩
  · obtain ⟨u, rfl, r⟩ := VsR.one hx
    rw [show u = _ from r]
    exact .inr ⟨_, rfl, p.now hR rfl⟩
  · exact p.elim
/-! sorted -/
def upS (ns : List Int) : List Int := ns.mergeSort fun a b => decide (a ≤ b)
def dnS (ns : List Int) : List Int := ns.mergeSort fun a b => decide (b ≤ a)
theorem upS_perm (ns : List Int) : (upS ns).Perm ns := List.mergeSort_perm _ _
theorem dnS_perm (ns : List Int) : (dnS ns).Perm ns := List.mergeSort_perm _ _
theorem upS_sorted (ns : List Int) : (upS ns).Pairwise (· ≤ ·) := by
  have h := List.pairwise_mergeSort (le := fun a b : Int => decide (a ≤ b)) (fun a b c h1 h2 => by simp at *; omega) (fun a b => by simp; omega) ns
  exact h.imp fun h => by simpa using h
theorem dnS_sorted (ns : List Int) : (dnS ns).Pairwise (· ≥ ·) := by
  have h := List.pairwise_mergeSort (le := fun a b : Int => decide (b ≤ a)) (fun a b c h1 h2 => by simp at *; omega) (fun a b => by simp; omega) ns
  exact h.imp fun h => by simpa using h
theorem upS_unique {a b : List Int} (hp : a.Perm b) (ha : a.Pairwise (· ≤ ·)) : a = upS b :=
  List.Perm.eq_of_pairwise (le := fun a b : Int => a ≤ b) (fun x y _ _ h1 h2 => Int.le_antisymm h1 h2) ha (upS_sorted b) (hp.trans (upS_perm b).symm)
theorem dnS_unique {a b : List Int} (hp : a.Perm b) (ha : a.Pairwise (· ≥ ·)) : a = dnS b :=
  List.Perm.eq_of_pairwise (le := fun a b : Int => a ≥ b) (fun x y _ _ h1 h2 => Int.le_antisymm h2 h1) ha (dnS_sorted b) (hp.trans (dnS_perm b).symm)
theorem VsR.mapI (η : List Addr) : ∀ ns : List Int, VsR η (ns.map V.int) (ns.map V.int)
  | [] => .nil
  | _ :: ns => .cons rfl (VsR.mapI η ns)
def sortM : List V → Sto → R V := fun vs S => match vs with
  | [x] => match rdI x S with
    | some ns => alloc (.lst ((upS ns).map V.int)) S
    | none => .bad
  | _ => .bad
theorem sortM_ok : CallM X (rSortedI X.K) sortM := by
  intro W σ η S H xs us Q hR hx p
  unfold sortM at p
  split at p
  · rename_i x
    obtain ⟨u, rfl, r⟩ := VsR.one hx
    split at p
    · rename_i ns h
      obtain ⟨a, rfl, hq, hl⟩ := rdI_ok h hR r
      refine ⟨a, ns, rfl, hq, fun ns' q hp ho hn => ?_⟩
      rw [upS_unique hp ho]
      exact p.lst hR (VsR.mapI η _) (by rw [List.length_map, (upS_perm ns).length_eq]; exact hl) q hn
    · exact p.elim
  · exact p.elim
def sortDM : List V → Sto → R V := fun vs S => match vs with
  | [x] => match rdI x S with
    | some ns => alloc (.lst ((dnS ns).map V.int)) S
    | none => .bad
  | _ => .bad
/-- sorted(e, reverse=True) -/
theorem fe_sortD {W : WX} {e : Expr} {m : St → Sto → R V} {p pos kp : Pos} {j : Nat} {cp : Pos} (hg : Gl X "sorted") (hm : X.mg "sorted" = none) (hv : bootBuiltins "sorted" = some (.builtin "sorted")) (he : FE X W e m)
    (h1 : backTo pos (starEach [e] X.env) = (false, eval e X.env) :: backTo pos (starEach [] X.env) := by rfl) (h1' : starEach [e] X.env = (false, eval e X.env) :: starEach [] X.env := by rfl) (h2 : (backTo pos (starEach [e] X.env)).any (·.1) = false := by rfl)
    (h3 : (backToKw pos (keywordEach [⟨some "reverse", .Constant (.bool true) j cp, kp⟩] X.env)).all (·.1.isSome) = true := by rfl) (h4 : (backToKw pos (keywordEach [⟨some "reverse", .Constant (.bool true) j cp, kp⟩] X.env)).any (·.1.isNone) = false := by rfl) (h5 : (backToKw pos (keywordEach [⟨some "reverse", .Constant (.bool true) j cp, kp⟩] X.env)).filterMap (·.1) = [Str.ofString "reverse"] := by rfl) :
    FE X W (.Call (.Name "sorted" p) [e] [⟨some "reverse", .Constant (.bool true) j cp, kp⟩] pos) (eA sortDM (aCons m aNil)) :=
  ⟨PE.wk (pe_callBK (cr_sortedRev (b := true)) hg hm hv (fa_cons he fa_nil h1').run (pk_cons pe_bl pk_nil) (by decide) (by decide) h1 h2 h3 h4 h5) fun σ H Q h => by
    obtain ⟨η, S, σ0, hR, hS, p⟩ := h
    refine ⟨η, S, σ0, hR, hS, (Po.bind (rel := VsR) p).imp fun us H1 ⟨η1, S1, vs, e1, hR1, r1, p1⟩ => ?_⟩
    show rSortedKw X.K true [.bl true] us [.bl true] H1 Q
    unfold sortDM at p1
    split at p1
    · rename_i x
      obtain ⟨u, rfl, r⟩ := VsR.one r1
      split at p1
      · rename_i ns h
        obtain ⟨a, rfl, hq, hl⟩ := rdI_ok h hR1 r
        refine ⟨a, ns, rfl, rfl, hq, fun ns' q hp ho hn => ?_⟩
        rw [dnS_unique hp ho]
        exact p1.lst hR1 (VsR.mapI η1 _) (by rw [List.length_map, (dnS_perm ns).length_eq]; exact hl) q hn
      · exact p1.elim
    · exact p1.elim⟩
/-! isinstance -/
def tyN (x : V) (S : Sto) : Option String := match x with
  | .non => some "NoneType"
  | .bl _ => some "bool"
  | .int _ => some "int"
  | .str _ => some "str"
  | .ref n => match S[n]? with
    | some (.lst _) => some "list"
    | some (.tup _) => some "tuple"
    | some (.dK _) => some "dict"
    | some (.dT _) => some "dict"
    | _ => none
  | _ => none
def isB (a b : String) : Option Bool :=
  if a ∈ ["NoneType", "bool", "int", "str", "list", "tuple", "dict"] ∧ b ∈ ["bool", "int", "str", "list", "tuple", "dict"] then some (decide (a = b) || (decide (a = "bool") && decide (b = "int"))) else none
theorem isB_ok {a b : String} {r : Bool} (h : isB a b = some r) : kitB a b = some r := by
  unfold isB at h
  split at h
  · rename_i hm
    cases h
    have all : ∀ a ∈ ["NoneType", "bool", "int", "str", "list", "tuple", "dict"], ∀ b ∈ ["bool", "int", "str", "list", "tuple", "dict"], kitB a b = some (decide (a = b) || (decide (a = "bool") && decide (b = "int"))) := by decide +kernel
    exact all a hm.1 b hm.2
  · cases h
theorem tyN_ok {x u : V} {t : String} (h : tyN x S = some t) (hR : Rel K η S H) (r : VR η x u) : TyX K H u (.type t) := by
  cases x with
  | non => cases h; rw [show u = _ from r]; exact .base .non
  | bl b => cases h; rw [show u = _ from r]; exact .base (.bl b)
  | int b => cases h; rw [show u = _ from r]; exact .base (.int b)
  | str b => cases h; rw [show u = _ from r]; exact .base (.str b)
  | ref n =>
    obtain ⟨a, ea, rfl⟩ := r
    obtain ⟨o, ho, x⟩ := hR.obj ea
    have h : (match S[n]? with
      | some (.lst _) => some "list"
      | some (.tup _) => some "tuple"
      | some (.dK _) => some "dict"
      | some (.dT _) => some "dict"
      | _ => none) = some t := h
    rw [ho] at h
    cases o with
    | lst xs => cases h; obtain ⟨_, us, e, _⟩ := x; exact .base (.lst e)
    | tup xs => cases h; obtain ⟨_, us, e, _⟩ := x; exact .base (.tup e)
    | frl xs => cases h
    | dK xs => cases h; obtain ⟨_, us, e, _⟩ := x; exact .base (.dK e)
    | dT xs => cases h; obtain ⟨_, us, e, _⟩ := x; exact .base (.dT e)
    | fD xs => cases h
    | tab xs q => cases h
    | dN xs => cases h
    | ins c xs => cases h
  | _ => cases h
def isiM : List V → Sto → R V := fun vs S => match vs with
  | [x, .ty b] => match tyN x S with
    | some t => match isB t b with
      | some r => .ok (.bl r) S
      | none => .bad
    | none => .bad
  | _ => .bad
theorem isiM_ok : CallM X (rIsi X.K) isiM := by
  intro W σ η S H xs us Q hR hx p
  unfold isiM at p
  split at p
  · rename_i x b
    obtain ⟨u, v, rfl, r1, r2⟩ := VsR.two hx
    split at p
    · rename_i t ht
      split at p
      · rename_i r hr
        exact ⟨u, v, _, _, r, rfl, by rw [show v = V.ty b from r2]; exact .ty b, tyN_ok ht hR r1, kit_ty (isB_ok hr), p.now hR rfl⟩
      · exact p.elim
    · exact p.elim
  · exact p.elim
/-! ### methods of lists -/
def isLs (x : V) (S : Sto) : Bool := (rdL x S).isSome
theorem isLs_ok : TyM X "list" isLs := by
  intro η S H x u hR r h
  unfold isLs at h
  cases e : rdL x S with
  | none => rw [e] at h; cases h
  | some xs =>
    obtain ⟨a, us, rfl, hq, _⟩ := rdL_ok e hR r
    exact .inl ⟨rfl, us, hq⟩
/-- a change of a list -/
def chL (x : V) (S : Sto) (f : List V → Option (List V × V)) : R V := match x with
  | .ref n => match S[n]? with
    | some (.lst xs) => match f xs with
      | some (ys, v) => .ok v (S.set n (.lst ys))
      | none => .bad
    | _ => .bad
  | _ => .bad
theorem chL_ok {W : WX} {σ : St} {x u : V} {f : List V → Option (List V × V)} {Q : VK} (hR : Rel X.K η S H) (r : VR η x u) (p : Po X.K X.mg W σ VR η H (chL x S f) Q) :
    ∃ n a xs us ys v, x = .ref n ∧ u = .ref a ∧ H a = some (.lst us) ∧ VsR η xs us ∧ f xs = some (ys, v) ∧ xs.length ≤ sizeLine ∧ ∀ vs w, VsR η ys vs → VR η v w → ys.length ≤ sizeLine → Q w (upd H a (.lst vs)) := by
  unfold chL at p
  split at p
  · rename_i n
    split at p
    · rename_i xs hx
      split at p
      · rename_i ys v hf
        obtain ⟨a, ea, rfl⟩ := r
        obtain ⟨z, us, e2, r2⟩ := hR.ob n a _ ea hx
        refine ⟨n, a, xs, us, ys, v, rfl, rfl, e2, r2, hf, z, fun vs w r3 rw' hl => ?_⟩
        exact p η _ w (Ext.set hR ea hx rfl) (hR.set ea hx rfl ⟨hl, _, upd_same, r3⟩ rfl) rw'
      · exact p.elim
    · exact p.elim
  · exact p.elim
def appM : V → List V → Sto → R V := fun x vs S => match vs with
  | [y] => chL x S fun xs => if xs.length < lim then some (xs ++ [y], .non) else none
  | _ => .bad
theorem appM_ok : MtM X rAppend appM := by
  intro W σ η S H x u xs us Q hR rx rs p
  unfold appM at p
  split at p
  · rename_i y
    obtain ⟨v, rfl, ry⟩ := VsR.one rs
    obtain ⟨n, a, xs, us, ys, w, rfl, rfl, e, r, hf, hl, q⟩ := chL_ok hR rx p
    split at hf
    · rename_i hlt
      cases hf
      exact ⟨a, us, v, rfl, rfl, e, by rw [← r.length]; exact hlt, q _ _ (papp r (.cons ry .nil)) rfl (by rw [List.length_append]; exact hlt)⟩
    · cases hf
  · exact p.elim
def clearM : V → List V → Sto → R V := fun x vs S => match vs with
  | [] => chL x S fun _ => some ([], .non)
  | _ => .bad
theorem clearM_ok : MtM X rClear clearM := by
  intro W σ η S H x u xs us Q hR rx rs p
  unfold clearM at p
  split at p
  · obtain ⟨n, a, xs, us, ys, w, rfl, rfl, e, r, hf, hl, q⟩ := chL_ok hR rx p
    cases hf
    cases rs
    exact ⟨a, us, rfl, rfl, e, q _ _ .nil rfl (Nat.zero_le _)⟩
  · exact p.elim
def reverseM : V → List V → Sto → R V := fun x vs S => match vs with
  | [] => chL x S fun xs => some (xs.reverse, .non)
  | _ => .bad
theorem reverseM_ok : MtM X rReverse reverseM := by
  intro W σ η S H x u xs us Q hR rx rs p
  unfold reverseM at p
  split at p
  · obtain ⟨n, a, xs, us, ys, w, rfl, rfl, e, r, hf, hl, q⟩ := chL_ok hR rx p
    cases hf
    cases rs
    exact ⟨a, us, rfl, rfl, e, q _ _ (prev r) rfl (by rw [List.length_reverse]; exact hl)⟩
  · exact p.elim
def popAtM : V → List V → Sto → R V := fun x vs S => match vs with
  | [.int i] => if -1000000 ≤ i ∧ i ≤ 1000000 then chL x S (fun xs => match ixN xs.length i with
    | some j => match xs[j]? with
      | some y => some (xs.eraseIdx j, y)
      | none => none
    | none => none) else .bad
  | _ => .bad
theorem popAtM_ok : MtM X rPopAt popAtM := by
  intro W σ η S H x u xs us Q hR rx rs p
  unfold popAtM at p
  split at p
  · split at p
    · rename_i i hi
      obtain ⟨n, a, xs, us, ys, w, rfl, rfl, e, r, hf, hl, q⟩ := chL_ok hR rx p
      rw [VsR.int1 rs]
      split at hf
      · rename_i j hj
        split at hf
        · rename_i y hy
          cases hf
          obtain ⟨h1, h2, h3, h4⟩ := ixN_seq hj
          obtain ⟨w', hw, rw'⟩ := pget r hy
          exact ⟨a, us, i, j, w', rfl, rfl, e, by omega, by omega, by rw [← r.length]; exact h1, hw, q _ _ (perase j r) rw' (Nat.le_trans (List.length_eraseIdx_le _ _) hl)⟩
        · cases hf
      · cases hf
    · exact p.elim
  · exact p.elim
def popM : V → List V → Sto → R V := fun x vs S => match vs with
  | [] => chL x S (fun xs => match xs[xs.length - 1]? with
      | some y => some (xs.dropLast, y)
      | none => none)
  | _ => .bad
theorem pdropLast {xs us : List V} (h : VsR η xs us) : VsR η xs.dropLast us.dropLast := by
  rw [List.dropLast_eq_take, List.dropLast_eq_take, h.length]
  exact ptake _ h
theorem popM_ok : MtM X rPop popM := by
  intro W σ η S H x u xs us Q hR rx rs p
  unfold popM at p
  split at p
  · obtain ⟨n, a, xs, us, ys, w, rfl, rfl, e, r, hf, hl, q⟩ := chL_ok hR rx p
    cases rs
    split at hf
    · rename_i y hy
      cases hf
      obtain ⟨w', hw, rw'⟩ := pget r hy
      exact ⟨a, us, w', rfl, rfl, e, by rw [← r.length]; exact hw, q _ _ (pdropLast r) rw' (by rw [List.length_dropLast]; omega)⟩
    · cases hf
  · exact p.elim
def extendM : V → List V → Sto → R V := fun x vs S => match vs with
  | [.ref b] => match S[b]? with
    | some (.lst zs) => chL x S fun xs => if xs.length + zs.length ≤ lim then some (xs ++ zs, .non) else none
    | _ => .bad
  | _ => .bad
theorem extendM_ok : MtM X rExtend extendM := by
  intro W σ η S H x u xs us Q hR rx rs p
  unfold extendM at p
  split at p
  · rename_i b
    obtain ⟨v, rfl, ry⟩ := VsR.one rs
    split at p
    · rename_i zs hz
      obtain ⟨c, ec, rfl⟩ := ry
      obtain ⟨_, vs, e3, r3⟩ := hR.ob b c _ ec hz
      obtain ⟨n, a, xs, us, ys, w, rfl, rfl, e, r, hf, hl, q⟩ := chL_ok hR rx p
      split at hf
      · rename_i hlt
        cases hf
        exact ⟨a, c, us, vs, rfl, rfl, e, e3, by rw [← r.length, ← r3.length]; exact hlt, q _ _ (papp r r3) rfl (by rw [List.length_append]; exact hlt)⟩
      · cases hf
    · exact p.elim
  · exact p.elim
end
end Fx
/-! Fx: defs by name; the law's row. -/
namespace Fx
open PySem PySem.Spec L2
open PyProof.Rows hiding St
/-- the def x of the module, called with n arguments, does what m says -/
structure Df (P : Program) (w : World) (K : PySem.W.Frag) (mg : Str → Option Value) (base : Heap) (x : Str) (k n : Nat) (m : List V → Sto → R V) : Prop where
  ex : ∃ (f : Addr) (fd : FuncData) (ps : List Str), FnOk P w K mg base (L2.CX P w) k f fd ps (spM K mg n m) ∧ mg x = some (.ref f) ∧ PySem.W.keepIn K (.ref f) = true ∧ Binds K fd ps []
def eCl (n : Nat) (m : List V → Sto → R V) (ma : St → Sto → R (List V)) : St → Sto → R V := fun σ S => (ma σ S).bind fun vs S1 => if vs.length = n then m vs S1 else .bad
theorem fe_call' {X : Cx} {W : WX} {e : Expr} {pos : Pos} {x : Str} {p : Pos} {es : List Expr} {j k n : Nat} {m : List V → Sto → R V} {mr : St → Sto → R (List V)} (D : Df X.prog X.w X.K X.mg X.base x k n m) (hr : Room j X.A) (hj : k ≤ j) (hg : Gl X x)
    (tk : Takes X W) (ha : FA X W (e :: es) mr) (hl : (e :: es).length = n := by rfl) (hdb : (x == ("__debug__" : Str)) = false := by decide)
    (he : starEach (e :: es) X.env = (false, eval e X.env) :: starEach es X.env := by rfl) (hpl : (backTo pos (starEach es X.env)).any (·.1) = false := by rfl) : FE X W (.Call (.Name x p) (e :: es) [] pos) (eCl n m mr) := by
  obtain ⟨f, fd, ps, h1, h2, h3, h4⟩ := D.ex
  exact fe_call h1 (hr.mono hj) hg h2 h3 h4 tk ha hl hdb he hpl
section
variable {X : Cx} {W : WX} {a b : Expr} {ma mb : St → Sto → R V} {pos : Pos}
theorem tV_of {m : St → Sto → R V} {t : TE} (h : ∀ σ H Q, lfE X W m σ H Q → t σ H Q) {σ : St} {H : Hp} {Q : Bool → Hp → Prop} (q : lfT X W (tV m) σ H Q) : tTest t σ H Q := by
  refine h σ H _ ?_
  obtain ⟨η, S, σ0, hR, hS, p⟩ := q
  refine ⟨η, S, σ0, hR, hS, (Po.bind (rel := VR) p).imp fun u H1 ⟨η1, S1, v, e1, hR1, r1, p1⟩ => ?_⟩
  cases v with
  | bl c => exact ⟨c, r1, p1.now hR1 rfl⟩
  | _ => exact p1.elim
theorem ft_cmp {op : CmpOp} {r : R2} {m : V → V → Sto → R V} (ho : OpR X (compareOp op) r) (hm : OpM X r m) (ha : FE X W a ma) (hb : FE X W b mb) (hk : behindInMarks op b = false := by first | exact nobehind _ (by decide) (by decide) | rfl) : FT X W (.Compare a [op] [b] pos) (tV (eO m ma mb)) :=
  ⟨PT.wk (pt_cmpR ho ha.run hb.run hk) fun σ H Q h => tV_of (fun σ H Q h => lf_bin hm h) h⟩
theorem ft_chain {c : Expr} {mc : St → Sto → R V} {op op' : CmpOp} {r r' : R2} {m m' : V → V → Sto → R V} (ho : OpR X (compareOp op) r) (hm : OpM X r m) (ho' : OpR X (compareOp op') r') (hm' : OpM X r' m') (ha : FE X W a ma) (hb : FE X W b mb) (hc : FE X W c mc) (hmk : lastMarks [op, op'] [b, c] = false := by with_unfolding_all rfl) : FT X W (.Compare a [op, op'] [b, c] pos) (tV (eCh m m' ma mb mc)) :=
  ⟨PT.wk (pt_chain ho ho' ha.run hb.run hc.run hmk) fun σ H Q h => tV_of (fun σ H Q h => lf_ch hm hm' h) h⟩
end
end Fx
/-! Fx: more words: list(range(..)), reversed, enumerate, remove; own exceptions: raise, try. -/
namespace Fx
open PySem PySem.Spec L2
open PyProof.Rows hiding St
variable {K : PySem.W.Frag} {η : List Addr} {S : Sto} {H : Hp}
section
variable {X : Cx} {W : WX} {a b : Expr} {ma mb : St → Sto → R V} {pos pos2 p p2 : Pos}
/-! list(range(..)) -/
def rgC (lo hi : Int) : Bool := decide (0 ≤ lo ∧ lo ≤ 1000000 ∧ 0 ≤ hi ∧ hi ≤ 1000000)
def lrM (lo hi : Int) (S : Sto) : R V := if rgC lo hi = true then alloc (.lst (rgV lo hi)) S else .bad
theorem rgC_ok {lo hi : Int} (h : rgC lo hi = true) : RgOk lo hi := by
  have h := of_decide_eq_true h
  exact RgOk.of_le h.1 (by omega) (by omega) h.2.2.1
theorem VsR.rg (lo hi : Int) : VsR η (rgV lo hi) (rgV lo hi) := by
  unfold rgV
  generalize (List.range (hi - lo).toNat) = l
  induction l with
  | nil => exact .nil
  | cons x l ih => exact .cons rfl ih
theorem lrM_ok {σ : St} {lo hi : Int} {Q : VK} (hR : Rel X.K η S H) (p : Po X.K X.mg W σ VR η H (lrM lo hi S) Q) : RgOk lo hi ∧ ∀ q, H q = none → Q (.ref q) (upd H q (.lst (rgV lo hi))) := by
  unfold lrM at p
  split at p
  · rename_i h
    have h1 := rgC_ok h
    exact ⟨h1, p.lst hR (VsR.rg lo hi) (by rw [rgV_length, sizeLine_eq]; exact h1.2.2.2.2)⟩
  · exact p.elim
def eLR1 (m : St → Sto → R V) : St → Sto → R V := fun σ S => (m σ S).bind fun x S1 => match x with
  | .int n => lrM 0 n S1
  | _ => .bad
def eLR2 (m m2 : St → Sto → R V) : St → Sto → R V := fun σ S => (m σ S).bind fun x S1 => (m2 σ S1).bind fun y S2 => match x, y with
  | .int i, .int j => lrM i j S2
  | _, _ => .bad
theorem fe_lr1 (hc : X.calm = true) (hg : Gl X "list") (hm : X.mg "list" = none) (hg2 : Gl X "range") (hm2 : X.mg "range" = none) (ha : FE X W a ma)
    (na : starEach [a] X.env = (false, eval a X.env) :: starEach [] X.env := by rfl) (na2 : starEach [.Call (.Name "range" p2) [a] [] pos2] X.env = (false, eval (.Call (.Name "range" p2) [a] [] pos2) X.env) :: starEach [] X.env := by rfl) :
    FE X W (.Call (.Name "list" p) [.Call (.Name "range" p2) [a] [] pos2] [] pos) (eLR1 ma) := ⟨PE.wk (pe_listRg hc hg hm (prg_1 hg2 hm2 ha.run na) na2) fun σ H Q h => by
  obtain ⟨η, S, σ0, hR, hS, p⟩ := h
  refine ⟨η, S, σ0, hR, hS, (Po.bind (rel := VR) p).imp fun u H1 ⟨η1, S1, v, e1, hR1, r1, p1⟩ => ?_⟩
  cases v with
  | int n => exact ⟨n, r1, lrM_ok hR1 p1⟩
  | _ => exact p1.elim⟩
theorem fe_lr2 (hc : X.calm = true) (hg : Gl X "list") (hm : X.mg "list" = none) (hg2 : Gl X "range") (hm2 : X.mg "range" = none) (ha : FE X W a ma) (hb : FE X W b mb)
    (na : starEach [a, b] X.env = (false, eval a X.env) :: starEach [b] X.env := by rfl) (nb : starEach [b] X.env = (false, eval b X.env) :: starEach [] X.env := by rfl) (nc : (backTo pos2 (starEach [b] X.env)).any (·.1) = false := by rfl)
    (na2 : starEach [.Call (.Name "range" p2) [a, b] [] pos2] X.env = (false, eval (.Call (.Name "range" p2) [a, b] [] pos2) X.env) :: starEach [] X.env := by rfl) :
    FE X W (.Call (.Name "list" p) [.Call (.Name "range" p2) [a, b] [] pos2] [] pos) (eLR2 ma mb) := ⟨PE.wk (pe_listRg hc hg hm (prg_2 hg2 hm2 ha.run hb.run na nb nc) na2) fun σ H Q h => by
  obtain ⟨η, S, σ0, hR, hS, p⟩ := h
  refine ⟨η, S, σ0, hR, hS, (Po.bind (rel := VR) p).imp fun u H1 ⟨η1, S1, v, e1, hR1, r1, p1⟩ => ?_⟩
  refine ⟨η1, S1, σ0, hR1, hS.mono e1.1, (Po.bind (rel := VR) p1).imp fun u2 H2 ⟨η2, S2, w, e2, hR2, r2, p2⟩ => ?_⟩
  cases v with
  | int i =>
    cases w with
    | int j => exact ⟨i, j, r1, r2, lrM_ok hR2 p2⟩
    | _ => exact p2.elim
  | _ => exact p2.elim⟩
/-! for x in reversed(xs) -/
def iRv (m : St → Sto → R V) : St → Sto → R AI := fun σ S => (m σ S).bind fun v S1 => match rdL v S1 with
  | some xs => .ok (xs.reverse.map .one, fun S => rdL v S == some xs) S1
  | none => .bad
theorem JR.rev {v u : V} {xs : List V} (h : rdL v S = some xs) (r : Rel K η S H) (q : VR η v u) : ∃ a us, u = .ref a ∧ SqL K H a us ∧ us.length = xs.length ∧ JR K η (xs.reverse.map .one, fun S => rdL v S == some xs) (Itv K a us.length) := by
  obtain ⟨a, us, rfl, hq, r2, z⟩ := rdL_ok h r q
  have hl := r2.length
  refine ⟨a, us, rfl, hq, hl.symm, by simpa using z, fun η' S' H' i it he hR hc hi => ?_, fun η' S' H' he hR hc => ?_⟩
  · have hc : rdL v S' = some xs := by simpa using hc
    obtain ⟨a', us', e', hq', r', z'⟩ := rdL_ok hc hR (q.mono he)
    cases e'
    have hl' := r'.length
    have hi : (xs.reverse.map Itm.one)[i]? = some it := hi
    rw [List.getElem?_map] at hi
    cases hx : xs.reverse[i]? with
    | none => rw [hx] at hi; cases hi
    | some x =>
      rw [hx] at hi
      cases hi
      have hi2 : i < xs.length := by
        have := (List.getElem?_eq_some_iff.mp hx).1
        simpa using this
      rw [List.getElem?_reverse hi2] at hx
      obtain ⟨w, hw, rw'⟩ := pget r' hx
      rw [hl] at hw
      refine ⟨⟨by omega, us', w, hq', hw⟩, fun y H2 hy => ?_⟩
      obtain ⟨rfl, hy⟩ := hy
      have := (hy us' hq').symm.trans hw
      cases this
      exact ⟨rfl, rw'⟩
  · show us.length ≤ (xs.reverse.map Itm.one).length
    rw [List.length_map, List.length_reverse]; omega
theorem fi_rev {tg : Expr} (hg : Gl X "reversed") (hm : X.mg "reversed" = none) (h : FE X W a ma) (hs : starEach [a] X.env = (false, eval a X.env) :: starEach [] X.env := by rfl) : FI X W tg (.Call (.Name "reversed" p) [a] [] pos) (iRv ma) := ⟨_, RT.pi_revA hg hm h.run hs, fun σ H Q h => by
  obtain ⟨η, S, σ0, hR, hS, p⟩ := h
  refine ⟨η, S, σ0, hR, hS, (Po.bind (rel := VR) p).imp fun u H1 ⟨η1, S1, v, e1, hR1, r1, p1⟩ => ?_⟩
  cases e : rdL v S1 with
  | none => rw [e] at p1; exact p1.elim
  | some xs =>
    rw [e] at p1
    obtain ⟨a, us, rfl, hq, hl, j⟩ := JR.rev e hR1 r1
    exact ⟨a, us, rfl, .inl ⟨hq, p1.now hR1 j⟩⟩⟩
/-! for i, x in enumerate(xs) -/
def enumI (xs : List V) : List Itm := xs.zipIdx.map fun p => .many [.int (p.2 : Nat), p.1]
def iEn (m : St → Sto → R V) : St → Sto → R AI := fun σ S => (m σ S).bind fun v S1 => match rdL v S1 with
  | some xs => .ok (enumI xs, fun S => rdL v S == some xs) S1
  | none => .bad
theorem enumI_len (xs : List V) : (enumI xs).length = xs.length := by simp [enumI]
theorem JR.enum {v u : V} {xs : List V} (h : rdL v S = some xs) (r : Rel K η S H) (q : VR η v u) : ∃ a us, u = .ref a ∧ SqL K H a us ∧ JR K η (enumI xs, fun S => rdL v S == some xs) (Ite K a) := by
  obtain ⟨a, us, rfl, hq, r2, z⟩ := rdL_ok h r q
  refine ⟨a, us, rfl, hq, by show (enumI xs).length ≤ _; rw [enumI_len]; exact z, fun η' S' H' i it he hR hc hi => ?_, fun η' S' H' he hR hc => ?_⟩
  · have hc : rdL v S' = some xs := by simpa using hc
    obtain ⟨a', us', e', hq', r', z'⟩ := rdL_ok hc hR (q.mono he)
    cases e'
    have hi : (enumI xs)[i]? = some it := hi
    unfold enumI at hi
    rw [List.getElem?_map, List.getElem?_zipIdx] at hi
    cases hx : xs[i]? with
    | none => rw [hx] at hi; cases hi
    | some x =>
      rw [hx] at hi
      cases hi
      obtain ⟨w, hw, rw'⟩ := pget r' hx
      refine ⟨⟨us', w, hq', hw⟩, fun y H2 hy => ?_⟩
      obtain ⟨T, x2, rfl, hT, rfl, f1⟩ := hy
      have e1 := (f1 us' hq').symm.trans hw
      cases e1
      exact ⟨T, [.int (i : Nat), w], rfl, hT, rfl, .cons (by show V.int _ = V.int _; rw [Nat.zero_add]) (.cons rw' .nil)⟩
  · have hc : rdL v S' = some xs := by simpa using hc
    obtain ⟨a', us', e', hq', r', z'⟩ := rdL_ok hc hR (q.mono he)
    cases e'
    refine ⟨us', hq', ?_⟩
    show us'.length ≤ (enumI xs).length
    rw [enumI_len, r'.length]; exact Nat.le_refl _
theorem fi_enum {elts : List Expr} {kk : Nat} {tpos : Pos} (hg : Gl X "enumerate") (hm : X.mg "enumerate" = none) (h : FE X W a ma) (hs : starEach [a] X.env = [(false, eval a X.env)] := by rfl) (hs' : starEach [a] X.env = (false, eval a X.env) :: starEach [] X.env := by rfl) :
    FI X W (.Tuple elts kk tpos) (.Call (.Name "enumerate" p) [a] [] pos) (iEn ma) := ⟨_, pi_enum hg hm (fa_cons h fa_nil hs').run hs, fun σ H Q h => by
  obtain ⟨η, S, σ0, hR, hS, p⟩ := h
  refine ⟨η, S, σ0, hR, hS, ?_⟩
  have p' : Po X.K X.mg W σ (JR X.K) η H ((aCons ma aNil σ0 S).bind fun vs S1 => match vs with
    | [v] => (match rdL v S1 with
      | some xs => R.ok (enumI xs, fun S => rdL v S == some xs) S1
      | none => .bad)
    | _ => .bad) Q := by
    unfold iEn at p
    unfold aCons aNil
    cases e : ma σ0 S with
    | ok v S1 => rw [e] at p; exact p
    | exc c S1 => rw [e] at p; exact p
    | bad => rw [e] at p; exact p
  refine (Po.bind (rel := VsR) p').imp fun us H1 ⟨η1, S1, vs, e1, hR1, r1, p1⟩ => ?_
  split at p1
  · rename_i v
    obtain ⟨u, rfl, r⟩ := VsR.one r1
    cases e : rdL v S1 with
    | none => rw [e] at p1; exact p1.elim
    | some xs =>
      rw [e] at p1
      obtain ⟨a, us, rfl, hq, j⟩ := JR.enum e hR1 r
      exact ⟨a, us, rfl, hq, p1.now hR1 j⟩
  · exact p1.elim⟩
/-! remove of an int that is there -/
def removeM : V → List V → Sto → R V := fun x vs S => match vs with
  | [.int k] => chL x S fun xs => match allI xs with
    | some ns => if k ∈ ns then some ((ns.erase k).map V.int, .non) else none
    | none => none
  | _ => .bad
theorem removeM_ok : MtM X rRemI removeM := by
  intro W σ η S H x u xs us Q hR rx rs p
  unfold removeM at p
  split at p
  · rename_i k
    obtain ⟨n, a, xs, us, ys, w, rfl, rfl, e, r, hf, hl, q⟩ := chL_ok hR rx p
    rw [VsR.int1 rs]
    split at hf
    · rename_i ns hns
      split at hf
      · rename_i hk
        cases hf
        rw [allI_eq hns] at r hl
        rw [VsR.ints r] at e
        obtain ⟨j, j1, j2, j3, j4⟩ := first_at hk
        refine ⟨a, ns, k, j, rfl, rfl, e, j2, j3, ?_⟩
        rw [j4]
        exact q _ _ (VsR.mapI η _) rfl (by rw [List.length_map] at *; exact Nat.le_trans (List.length_erase_le) hl)
      · cases hf
    · cases hf
  · exact p.elim
end
/-! ### own exceptions -/
/-- the class c can be raised -/
structure OwnC (K : PySem.W.Frag) (mg : Str → Option Value) (c : String) : Prop where
  ex : ∃ C : Addr, mg (Str.ofString c) = some (.ref C) ∧ PySem.W.excIn K C [.type "ValueError", .type "Exception", .type "BaseException", .type "object"] "ValueError.__new__" = true ∧ PySem.W.keepIn K (.ref C) = true ∧
    PySem.W.subIn K (.ref C) (.type "BaseException") = some true ∧ PySem.W.typeIn K (.ref C) = some (.type "type")
theorem fs_raise' {X : Cx} {W : WX} {c : String} {x mm : Str} {j : Nat} {p p2 pos pos' : Pos} (hc : X.calm = true) (tk : Takes X W) (O : OwnC X.K X.mg c) (hg : Gl X x) (hx : x = Str.ofString c := by rfl) (hdb : (x == ("__debug__" : Str)) = false := by decide) :
    FS X W (.Raise (some (.Call (.Name x p) [.Constant (.str mm) j p2] [] pos')) none pos) (sRs c) := by
  obtain ⟨C, h1, h2, h3, h4, h5⟩ := O.ex
  exact fs_raise hc tk PySem.F.excBase_ValueError h2 (by rw [hx]; exact h1) h3 (raises_own h4 h5) hg hx hdb
/-- all own classes stand right under MixError, it under ValueError -/
def subE (c h : String) : Bool := c == h || h == "MixError" || h == "ValueError"
/-- how an except clause for h (whose value is hv) takes the classes of cs -/
def HdE (K : PySem.W.Frag) (mg : Str → Option Value) (cs : List String) (h : String) (hv : Value) : Prop := ∀ c ∈ cs, ∀ C : Addr, mg (Str.ofString c) = some (.ref C) → PySem.W.exmOne K (.ref C) hv = some (subE c h)
def noRs (r : R Fl) : R Fl := match r with
  | .ok (.rs _ _) _ => .bad
  | r => r
def sTry (cs : List String) (h : String) (body suite : St → Sto → R Fl) : St → Sto → R Fl := fun σ S => match body σ S with
  | .ok (.rs c σ1) S1 => if cs.contains c = true then (if subE c h = true then noRs (suite σ1 S1) else .ok (.rs c σ1) S1) else .bad
  | r => r
def sTryA (cs : List String) (h : String) (i : Nat) (body : St → Sto → R Fl) (suite : String → St → St) : St → Sto → R Fl := fun σ S => match body σ S with
  | .ok (.rs c σ1) S1 => if cs.contains c = true ∧ i < σ1.length then (if subE c h = true then .ok (.nx ((suite c (σ1.set i none)).set i none)) S1 else .ok (.rs c σ1) S1) else .bad
  | r => r
theorem lfS_nx {X : Cx} {W : WX} {D : Ends} {r : R Fl} (p : PoS X W D η H (noRs r)) : PoS X W0 D η H r := by
  unfold noRs at p
  split at p
  · exact p.elim
  · rename_i h
    cases r with
    | ok f S' =>
      cases f with
      | rs c σ => exact (h c σ S' rfl).elim
      | _ => exact p
    | _ => exact p
theorem fs_try {X : Cx} {W : WX} {x : Str} {hv : Value} {h : String} {cs : List String} {body suite : List Stmt} {b₀ : Stmt} {np pos pos' : Pos} {mb ms : St → Sto → R Fl} (hs : X.stack = X.env :: X.outer) (hf : X.env.frame = some X.env.locals) (hc : Names X x hv) (tk : Takes X W) (hk : HdE X.K X.mg cs h hv)
    (hb : ∀ (W : WX) (pn : List (Addr × Obj)) (xe : Value → Shared → Prop), Takes (X.tr pn xe) W → PassesOwn (model X.prog X.w) X.A X.env xe → FSs (X.tr pn xe) W body mb)
    (hsu : ∀ (a : Addr) (oe : Obj) (pn : List (Addr × Obj)), FSs (X.suite a ((a, oe) :: pn)) W0 (b₀ :: suite) ms) :
    FS X W (.Try body [.ExceptHandler (some (.Name x np)) none (b₀ :: suite) pos'] [] [] pos) (sTry cs h mb ms) :=
  ⟨PS.wk (ps_try_only (tb := fun W' => lfS X W' mb) (ts := fun _ _ _ => lfS X W0 ms) hs hf hc tk (fun W' pn xe t q => (hb W' pn xe t q).run) (fun a oe cls d pn _ _ => (hsu a oe pn).run)) fun D σ H hh => by
    obtain ⟨η, S, σ0, hR, hS, p⟩ := hh
    refine ⟨η, S, σ0, hR, hS, ?_⟩
    unfold sTry at p
    cases e : mb σ0 S with
    | ok f S1 =>
      rw [e] at p
      cases f with
      | rs c σ1 =>
        intro η' H' σ2 C e' hR' hS' hC
        dsimp only at p
        by_cases hcs : cs.contains c = true
        · rw [if_pos hcs] at p
          refine ⟨subE c h, hk c (by simpa using hcs) C hC, fun hb a ha => ?_, fun hb => ?_⟩
          · rw [if_pos hb] at p
            exact ⟨η', S1, σ1, hR', hS', PoS.mono e' (lfS_nx p)⟩
          · rw [if_neg (by rw [hb]; decide)] at p
            exact p η' H' σ2 C e' hR' hS' hC
        · rw [if_neg hcs] at p; exact p.elim
      | nx σ1 => exact p
      | rt v => exact p
      | bk σ1 => exact p
      | ct σ1 => exact p
    | exc c S1 => rw [e] at p; exact p.elim
    | bad => rw [e] at p; exact p.elim⟩
/-- a suite that holds its error in slot i -/
structure FUs (X : Cx) (i : Nat) (cs : List String) (suite : List Stmt) (m : String → St → St) : Prop where
  run : ∀ (a : Addr) (oe : Obj) (pn : List (Addr × Obj)) (c : String) (C : Addr), c ∈ cs → X.mg (Str.ofString c) = some (.ref C) → Zc (.ref C) none oe → (∃ vs, oe.data = .fields vs) → PSs (X.suite a ((a, oe) :: pn)) suite fun D σ H =>
    ∃ η S σ0, Rel X.K η S H ∧ SR η σ0 σ ∧ σ[i]? = some (some (.ref a)) ∧ ∀ H1 σ1, Ext η H η H1 → Rel X.K η S H1 → SR η (m c σ0) σ1 → σ1[i]? = some (some (.ref a)) → D.nx σ1 H1
theorem SR.unset {σ0 σ : St} (h : SR η σ0 σ) (i : Nat) (o : Option V) : SR η (σ0.set i none) (σ.set i o) := pset (F := OR η) (x := none) (u := o) trivial i h
theorem fs_tryA {X : Cx} {W : WX} {x n : Str} {hv : Value} {h : String} {i : Nat} {cs : List String} {body suite : List Stmt} {b₀ : Stmt} {np pos pos' : Pos} {mb : St → Sto → R Fl} {ms : String → St → St} (hs : X.stack = X.env :: X.outer) (hf : X.env.frame = some X.env.locals)
    (hN : X.N.Nodup) (hi : X.N[i]? = some n) (hln : X.env.kindOf n = some .local) (hc : Names X x hv) (tk : Takes X W) (hk : HdE X.K X.mg cs h hv)
    (hb : ∀ (W : WX) (pn : List (Addr × Obj)) (xe : Value → Shared → Prop), Takes (X.tr pn xe) W → PassesOwn (model X.prog X.w) X.A X.env xe → FSs (X.tr pn xe) W body mb)
    (hsu : FUs X i cs (b₀ :: suite) ms) :
    FS X W (.Try body [.ExceptHandler (some (.Name x np)) (some n) (b₀ :: suite) pos'] [] [] pos) (sTryA cs h i mb ms) :=
  ⟨PS.wk (ps_try_as (tb := fun W' => lfS X W' mb) (ts := fun a cls d => fun D σ H => ∃ c C, c ∈ cs ∧ X.mg (Str.ofString c) = some (.ref C) ∧ cls = .ref C ∧ d = none ∧ ∃ η S σ0, Rel X.K η S H ∧ SR η σ0 σ ∧ σ[i]? = some (some (.ref a)) ∧ ∀ H1 σ1, Ext η H η H1 → Rel X.K η S H1 → SR η (ms c σ0) σ1 → σ1[i]? = some (some (.ref a)) → D.nx σ1 H1)
    hs hf hN hi hln hc tk (fun W' pn xe t q => (hb W' pn xe t q).run) (fun a oe cls d pn hz hfl => ⟨fun pins s σ H D I hh => by
      obtain ⟨c, C, h1, h2, rfl, rfl, h3⟩ := hh
      exact (hsu.run a oe pn c C h1 h2 hz hfl).run pins s σ H D I h3⟩)) fun D σ H hh => by
    obtain ⟨η, S, σ0, hR, hS, p⟩ := hh
    refine ⟨η, S, σ0, hR, hS, ?_⟩
    unfold sTryA at p
    cases e : mb σ0 S with
    | ok f S1 =>
      rw [e] at p
      cases f with
      | rs c σ1 =>
        intro η' H' σ2 C e' hR' hS' hC
        dsimp only at p
        by_cases hcs : cs.contains c = true ∧ i < σ1.length
        · rw [if_pos hcs] at p
          have hcm : c ∈ cs := by simpa using hcs.1
          refine ⟨subE c h, hk c hcm C hC, fun hb a ha => ?_, fun hb => ?_⟩
          · rw [if_pos hb] at p
            refine ⟨c, C, hcm, hC, rfl, rfl, η', S1, σ1.set i none, hR', hS'.unset i _, ?_, fun H1 σ3 e1 r1 s1 _ => ?_⟩
            · exact List.getElem?_set_self (by rw [← hS'.length]; exact hcs.2)
            · exact p η' H1 (σ3.set i none) (e'.trans e1) r1 (s1.unset i none)
          · rw [if_neg (by rw [hb]; decide)] at p
            exact p η' H' σ2 C e' hR' hS' hC
        · rw [if_neg hcs] at p; exact p.elim
      | nx σ1 => exact p
      | rt v => exact p
      | bk σ1 => exact p
      | ct σ1 => exact p
    | exc c S1 => rw [e] at p; exact p.elim
    | bad => rw [e] at p; exact p.elim⟩
/-! what such suites do -/
abbrev TSu (X : Cx) (i : Nat) (a : Addr) (m : St → St) : TS := fun D σ H => ∃ η S σ0, Rel X.K η S H ∧ SR η σ0 σ ∧ σ[i]? = some (some (.ref a)) ∧ ∀ H1 σ1, Ext η H η H1 → Rel X.K η S H1 → SR η (m σ0) σ1 → σ1[i]? = some (some (.ref a)) → D.nx σ1 H1
structure FU (X : Cx) (i : Nat) (cs : List String) (st : Stmt) (m : String → St → St) : Prop where
  run : ∀ (a : Addr) (oe : Obj) (pn : List (Addr × Obj)) (c : String) (C : Addr), c ∈ cs → X.mg (Str.ofString c) = some (.ref C) → Zc (.ref C) none oe → (∃ vs, oe.data = .fields vs) → PS (X.suite a ((a, oe) :: pn)) st (TSu X i a (m c))
/-- a test whose answer hangs on the error's class alone -/
structure FUB (X : Cx) (i : Nat) (cs : List String) (e : Expr) (f : String → Bool) : Prop where
  run : ∀ (a : Addr) (oe : Obj) (pn : List (Addr × Obj)) (c : String) (C : Addr), c ∈ cs → X.mg (Str.ofString c) = some (.ref C) → Zc (.ref C) none oe → (∃ vs, oe.data = .fields vs) → PE (X.suite a ((a, oe) :: pn)) e fun σ H Q =>
    ∃ η S, Rel X.K η S H ∧ σ[i]? = some (some (.ref a)) ∧ ∀ H1, Ext η H η H1 → Rel X.K η S H1 → Q (.bl (f c)) H1
def uNil : String → St → St := fun _ σ => σ
def uSeq (m m2 : String → St → St) : String → St → St := fun c σ => m2 c (m c σ)
def uSet (j : Nat) (n : Int) : String → St → St := fun _ σ => σ.set j (some (.int n))
def uIf (f : String → Bool) (m : String → St → St) : String → St → St := fun c σ => if f c = true then m c σ else σ
def uMul (j : Nat) (n : Int) (f : String → Bool) : String → St → St := fun c σ => σ.set j (some (.int (n * (if f c = true then 1 else 0))))
def fAny (ds : List String) : String → Bool := fun c => ds.any (subE c)
def fYes : String → Bool := fun _ => true
section
variable {X : Cx} {i : Nat} {cs : List String} {st : Stmt} {sts : List Stmt} {m m2 : String → St → St} {e : Expr} {f : String → Bool} {pos p p2 p3 p4 : Pos}
theorem fus_nil : FUs X i cs [] uNil := ⟨fun a oe pn c C h1 h2 h3 h4 => PSs.wk pss_nil fun D σ H h => by
  obtain ⟨η, S, σ0, hR, hS, ha, k⟩ := h
  exact k H σ (Ext.refl _ _) hR hS ha⟩
theorem fus_cons (h : FU X i cs st m) (hr : FUs X i cs sts m2) : FUs X i cs (st :: sts) (uSeq m m2) := ⟨fun a oe pn c C h1 h2 h3 h4 => PSs.wk (pss_cons (h.run a oe pn c C h1 h2 h3 h4) (hr.run a oe pn c C h1 h2 h3 h4)) fun D σ H hh => by
  obtain ⟨η, S, σ0, hR, hS, ha, k⟩ := hh
  exact ⟨η, S, σ0, hR, hS, ha, fun H1 σ1 e1 r1 s1 a1 => ⟨η, S, m c σ0, r1, s1, a1, fun H2 σ2 e2 r2 s2 a2 => k H2 σ2 (e1.trans e2) r2 s2 a2⟩⟩⟩
theorem fu_set {j : Nat} {x : Str} {n : Int} {jj : Nat} (hN : X.N.Nodup) (hi : X.N[j]? = some x) (hx : Loc X.env.scope x) (hij : (j == i) = false) (hs : swapsWith (.Constant (.int n) jj p2) (some (.Name x p)) pos.line X.env = pure false := by rfl)
    (hf : X.fn x = true ∨ X.env.scope.names.lookup x = some .local := by first | exact .inl rfl | exact .inr rfl | assumption) : FU X i cs (.Assign [.Name x p] (.Constant (.int n) jj p2) pos) (uSet j n) :=
  ⟨fun a oe pn c C h1 h2 h3 h4 => PS.wk (ps_set (X := X.suite a ((a, oe) :: pn)) (i := j) hN hi hx pe_int hs hf) fun D σ H hh => by
    obtain ⟨η, S, σ0, hR, hS, ha, k⟩ := hh
    refine k H _ (Ext.refl _ _) hR (hS.set j (show OR η (some (.int n)) (some (.int n)) from rfl)) ?_
    rw [List.getElem?_set_ne (by simpa using hij)]; exact ha⟩
theorem fu_if (h : FUB X i cs e f) (hr : FUs X i cs sts m) (he : ∀ whole, isTrue e X.env whole = (do let v ← whole; standAt e.pos; holding [v] (truthy v)) := by intro _; rfl) : FU X i cs (.If e sts [] pos) (uIf f m) :=
  ⟨fun a oe pn c C h1 h2 h3 h4 => PS.wk (ps_if (pt_val (X := X.suite a ((a, oe) :: pn)) (h.run a oe pn c C h1 h2 h3 h4) he) (hr.run a oe pn c C h1 h2 h3 h4) pss_nil) fun D σ H hh => by
    obtain ⟨η, S, σ0, hR, hS, ha, k⟩ := hh
    refine ⟨η, S, hR, ha, fun H1 e1 r1 => ⟨f c, rfl, ?_⟩⟩
    cases hf : f c with
    | true =>
      refine ⟨η, S, σ0, r1, hS, ha, fun H2 σ2 e2 r2 s2 a2 => k H2 σ2 (e1.trans e2) r2 ?_ a2⟩
      simpa [uIf, hf] using s2
    | false =>
      refine k H1 σ e1 r1 ?_ ha
      simpa [uIf, hf] using hS⟩
/-- an own class by its name, as isinstance asks for it -/
structure IsC (K : PySem.W.Frag) (mg : Str → Option Value) (cs : List String) (d : String) : Prop where
  ex : ∃ D : Addr, mg (Str.ofString d) = some (.ref D) ∧ ∀ c ∈ cs, ∀ C : Addr, mg (Str.ofString c) = some (.ref C) → PySem.W.kitOne K (.ref C) (.ref D) = some (subE c d)
inductive NmsC (X : Cx) (cs : List String) : List Expr → List String → Prop
  | nil : NmsC X cs [] []
  | cons {x : Str} {d : String} {es : List Expr} {ds : List String} {p : Pos} (I : IsC X.K X.mg cs d) (hg : Gl X x) (hr : NmsC X cs es ds) (hx : x = Str.ofString d := by rfl) (hdb : (x == ("__debug__" : Str)) = false := by decide)
      (hst : starEach (.Name x p :: es) X.env = (false, eval (.Name x p) X.env) :: starEach es X.env := by rfl) : NmsC X cs (.Name x p :: es) (d :: ds)
theorem NmsC.pa {es : List Expr} {ds : List String} (h : NmsC X cs es ds) : ∃ (Ds : List Addr) (t : TA), PA X es t ∧ (∀ σ H Q, Q (Ds.map V.ref) H → t σ H Q) ∧ Ds.length = ds.length ∧ ∀ c ∈ cs, ∀ C : Addr, X.mg (Str.ofString c) = some (.ref C) → PySem.W.kitAny X.K (.ref C) (Ds.map Value.ref) = some (ds.any (subE c)) := by
  induction h with
  | nil => exact ⟨[], tNil, pa_nil, fun σ H Q h => h, rfl, fun c hc C hC => rfl⟩
  | cons I hg hr hx hdb hst ih =>
    rename_i x d es ds p
    obtain ⟨Ds, t, h1, h2, h3, h4⟩ := ih
    obtain ⟨D, hD, hk⟩ := I.ex
    refine ⟨D :: Ds, tCons (tC (.ref D)) t, pa_cons (pe_glob hg (by rw [hx]; exact hD) rfl hdb) h1 hst, fun σ H Q h => ?_, by simp [h3], fun c hc C hC => ?_⟩
    · exact h2 σ H _ h
    · show PySem.W.kitAny X.K (.ref C) (Value.ref D :: Ds.map Value.ref) = _
      refine kitAny_cons (hk c hc C hC) (fun hf => ?_) (fun ht => ?_)
      · rw [h4 c hc C hC, List.any_cons, hf]; rfl
      · rw [List.any_cons, ht]; rfl
/-- what isinstance wants of the classes that are raised -/
def ExCs (K : PySem.W.Frag) (mg : Str → Option Value) (cs : List String) : Prop := ∀ c ∈ cs, ∀ C : Addr, mg (Str.ofString c) = some (.ref C) → ExcC K C
theorem excAt {C a : Addr} {oe : Obj} {h : Heap} (hz : Zc (.ref C) none oe) (hf : ∃ vs, oe.data = .fields vs) (hget : h.get? a = some oe) : PySem.W.InstAt h a oe C none := by
  obtain ⟨vs, hv⟩ := hf
  obtain ⟨oc, od, oda, osl⟩ := oe
  obtain ⟨h1, h2⟩ := hz
  dsimp only at h1 h2 hv
  subst h1 h2 hv
  exact ⟨hget, rfl, rfl, trivial⟩
def rIsET (K : PySem.W.Frag) (D a : Addr) : List V → Hp → VK → Prop := fun xs H Q => ∃ (tp : Addr) (Ds : List Addr) (b : Bool), xs = [.ref a, .ref tp] ∧ H tp = some (.tup (Ds.map V.ref)) ∧ PySem.W.kitAny K (.ref D) (Ds.map Value.ref) = some b ∧ Q (.bl b) H
theorem refs_vals : ∀ {Ds : List Addr} {us : List Value}, Vals (Ds.map V.ref) us → us = Ds.map Value.ref
  | [], _, .nil => rfl
  | D :: Ds, _, .cons r t => by
    cases (show _ = Value.ref D from r)
    rw [refs_vals t]; rfl
theorem call_isET {a D : Addr} {oe : Obj} {pn : List (Addr × Obj)} (C : ExcC X.K D) (hz : Zc (.ref D) none oe) (hf : ∃ vs, oe.data = .fields vs) : CallR (X.suite a ((a, oe) :: pn)) (.builtin "isinstance") (rIsET X.K D a) := by
  intro pins s σ H xs us Q I r h
  obtain ⟨tp, Ds, b, rfl, hT, e, q⟩ := h
  obtain ⟨u1, u2, rfl, r1, r2⟩ := vals2 r
  cases (show u1 = Value.ref a from r1)
  cases (show u2 = Value.ref tp from r2)
  obtain ⟨hget, _⟩ := I.pin (a, oe) (List.mem_append.mpr (.inl List.mem_cons_self))
  obtain ⟨_, its, rv, o, h1, h2, n, h3⟩ := (show ObjOk _ _ H s.heap tp (.tup (Ds.map V.ref)) from I.hok tp _ hT)
  have e3 := refs_vals rv
  subst e3
  obtain ⟨oc, od, dt, sl⟩ := o
  simp only at h2 h3
  subst h2 h3
  exact PySem.W.kia_tup (PySem.W.handS_kitx_exc C.hg C.hk C.hs C.hd C.ha C.hn C.ht C.hm) I.kIn (excAt hz hf hget) h1 e (fun z => nomatch z) fun tk => ⟨.bl b, H, I.kept (t' := tk) fun _ _ z => z, rfl, q⟩
theorem fub_isT {n : Str} {es : List Expr} {ds : List String} {k : Nat} (hE : ExCs X.K X.mg cs) (hN : X.N[i]? = some n) (hv : Vis X.env.scope n) (hg : Gl X "isinstance") (hm : X.mg "isinstance" = none) (hb : bootBuiltins "isinstance" = some (.builtin "isinstance")) (h : ∀ a oe pn, NmsC (X.suite a ((a, oe) :: pn)) cs es ds) (hl : ds.length ≤ 1000)
    (hd : (n == ("__debug__" : Str)) = false := by decide) (hcd : (n == ("__classdict__" : Str)) = false := by decide)
    (he : starEach (.Name n p :: [.Tuple es k p2]) X.env = (false, eval (.Name n p) X.env) :: starEach [.Tuple es k p2] X.env := by rfl) (he2 : starEach [.Tuple es k p2] X.env = (false, eval (.Tuple es k p2) X.env) :: starEach [] X.env := by rfl)
    (hpl : (backTo pos (starEach [.Tuple es k p2] X.env)).any (·.1) = false := by rfl) :
    FUB X i cs (.Call (.Name "isinstance" p3) [.Name n p, .Tuple es k p2] [] pos) (fAny ds) :=
  ⟨fun a oe pn c C h1 h2 h3 h4 => by
    obtain ⟨Ds, t, q1, q2, q3, q4⟩ := (h a oe pn).pa
    refine PE.wk (pe_callB (X := X.suite a ((a, oe) :: pn)) (call_isET (hE c h1 C h2) h3 h4) hg hm hb (pa_cons (pe_var (i := i) hN hv hd hcd) (pa_cons (pe_tup q1) pa_nil he2) he) (by decide) (by decide) he hpl) fun σ H Q hh => ?_
    obtain ⟨η, S, hR, ha, k⟩ := hh
    refine ⟨.ref a, ha, q2 σ H _ ⟨by rw [List.length_map, q3, sizeLine_eq]; omega, fun q hq => ?_⟩⟩
    exact ⟨q, Ds, _, rfl, upd_same, q4 c h1 C h2, k _ (Ext.side hq _) (hR.side hq _)⟩⟩
theorem fub_isV {n : Str} (hE : ExCs X.K X.mg cs) (hk : ∀ c ∈ cs, ∀ C : Addr, X.mg (Str.ofString c) = some (.ref C) → PySem.W.kitOne X.K (.ref C) (.type "ValueError") = some true) (hN : X.N[i]? = some n) (hv : Vis X.env.scope n) (hg : Gl X "isinstance") (hm : X.mg "isinstance" = none) (hb : bootBuiltins "isinstance" = some (.builtin "isinstance"))
    (hg2 : Gl X "ValueError") (hm2 : X.mg "ValueError" = none) (hb2 : bootBuiltins "ValueError" = some (.type "ValueError"))
    (hd : (n == ("__debug__" : Str)) = false := by decide) (hcd : (n == ("__classdict__" : Str)) = false := by decide)
    (he : starEach (.Name n p :: [.Name "ValueError" p2]) X.env = (false, eval (.Name n p) X.env) :: starEach [.Name "ValueError" p2] X.env := by rfl) (he2 : starEach [.Name "ValueError" p2] X.env = (false, eval (.Name "ValueError" p2) X.env) :: starEach [] X.env := by rfl)
    (hpl : (backTo pos (starEach [.Name "ValueError" p2] X.env)).any (·.1) = false := by rfl) :
    FUB X i cs (.Call (.Name "isinstance" p3) [.Name n p, .Name "ValueError" p2] [] pos) fYes :=
  ⟨fun a oe pn c C h1 h2 h3 h4 => by
    refine PE.wk (pe_callB (X := X.suite a ((a, oe) :: pn)) (call_isE (hE c h1 C h2) h3 h4) hg hm hb (pa_cons (pe_var (i := i) hN hv hd hcd) (pa_cons (pe_bltn (v := .ty "ValueError") hg2 hm2 hb2 rfl) pa_nil he2) he) (by decide) (by decide) he hpl) fun σ H Q hh => ?_
    obtain ⟨η, S, hR, ha, k⟩ := hh
    exact ⟨.ref a, ha, .ty "ValueError", .type "ValueError", true, rfl, fun u hu => hu, hk c h1 C h2, k H (Ext.refl _ _) hR⟩⟩
/-- x = k * int(test) -/
theorem fu_mul {j : Nat} {x : Str} {n : Int} {jj : Nat} {p5 p6 p7 : Pos} (h : FUB X i cs e f) (hN : X.N.Nodup) (hi : X.N[j]? = some x) (hx : Loc X.env.scope x) (hij : (j == i) = false) (hg : Gl X "int") (hm : X.mg "int" = none) (hb : bootBuiltins "int" = some (.type "int"))
    (hs : swapsWith (.BinOp (.Constant (.int n) jj p2) .Mult (.Call (.Name "int" p5) [e] [] p6) p7) (some (.Name x p)) pos.line X.env = pure false := by rfl) (hn : -1000 ≤ n ∧ n ≤ 1000 := by decide)
    (he : starEach [e] X.env = (false, eval e X.env) :: starEach [] X.env := by rfl)
    (hf : X.fn x = true ∨ X.env.scope.names.lookup x = some .local := by first | exact .inl rfl | exact .inr rfl | assumption) :
    FU X i cs (.Assign [.Name x p] (.BinOp (.Constant (.int n) jj p2) .Mult (.Call (.Name "int" p5) [e] [] p6) p7) pos) (uMul j n f) :=
  ⟨fun a oe pn c C h1 h2 h3 h4 => PS.wk (ps_set (X := X.suite a ((a, oe) :: pn)) (i := j) hN hi hx (pe_op op_mul pe_int (pe_callTy call_int1 hg hm hb (pa_cons (h.run a oe pn c C h1 h2 h3 h4) pa_nil he) (by decide) (by decide) he rfl)) hs hf) fun D σ H hh => by
    obtain ⟨η, S, σ0, hR, hS, ha, k⟩ := hh
    refine ⟨η, S, hR, ha, fun H1 e1 r1 => .inr ⟨f c, rfl, ?_⟩⟩
    refine ⟨n, if f c = true then 1 else 0, rfl, rfl, ?_, ?_⟩
    · exact .inl ⟨by omega, by omega⟩
    · refine k H1 _ e1 r1 (hS.set j (show OR η (some (.int _)) (some (.int _)) from rfl)) ?_
      rw [List.getElem?_set_ne (by simpa using hij)]; exact ha⟩
end
/-! by facts told by name -/
def HdX (K : PySem.W.Frag) (mg : Str → Option Value) (cs : List String) (h : String) : Prop := ∃ C : Addr, mg (Str.ofString h) = some (.ref C) ∧ HdE K mg cs h (.ref C)
theorem fs_try' {X : Cx} {W : WX} {x : Str} {h : String} {cs : List String} {body suite : List Stmt} {b₀ : Stmt} {np pos pos' : Pos} {mb ms : St → Sto → R Fl} (hs : X.stack = X.env :: X.outer) (hf : X.env.frame = some X.env.locals) (hg : Gl X x) (tk : Takes X W) (hk : HdX X.K X.mg cs h)
    (hb : ∀ (W : WX) (pn : List (Addr × Obj)) (xe : Value → Shared → Prop), Takes (X.tr pn xe) W → PassesOwn (model X.prog X.w) X.A X.env xe → FSs (X.tr pn xe) W body mb)
    (hsu : ∀ (a : Addr) (oe : Obj) (pn : List (Addr × Obj)), FSs (X.suite a ((a, oe) :: pn)) W0 (b₀ :: suite) ms) (hx : x = Str.ofString h := by rfl) (hdb : (x == ("__debug__" : Str)) = false := by decide) :
    FS X W (.Try body [.ExceptHandler (some (.Name x np)) none (b₀ :: suite) pos'] [] [] pos) (sTry cs h mb ms) := by
  obtain ⟨C, h1, h2⟩ := hk
  exact fs_try hs hf ⟨hg, hdb, .inl (by rw [hx]; exact h1)⟩ tk h2 hb hsu
theorem fs_tryA' {X : Cx} {W : WX} {x n : Str} {h : String} {i : Nat} {cs : List String} {body suite : List Stmt} {b₀ : Stmt} {np pos pos' : Pos} {mb : St → Sto → R Fl} {ms : String → St → St} (hs : X.stack = X.env :: X.outer) (hf : X.env.frame = some X.env.locals)
    (hN : X.N.Nodup) (hi : X.N[i]? = some n) (hln : X.env.kindOf n = some .local) (hg : Gl X x) (tk : Takes X W) (hk : HdX X.K X.mg cs h)
    (hb : ∀ (W : WX) (pn : List (Addr × Obj)) (xe : Value → Shared → Prop), Takes (X.tr pn xe) W → PassesOwn (model X.prog X.w) X.A X.env xe → FSs (X.tr pn xe) W body mb)
    (hsu : FUs X i cs (b₀ :: suite) ms) (hx : x = Str.ofString h := by rfl) (hdb : (x == ("__debug__" : Str)) = false := by decide) :
    FS X W (.Try body [.ExceptHandler (some (.Name x np)) (some n) (b₀ :: suite) pos'] [] [] pos) (sTryA cs h i mb ms) := by
  obtain ⟨C, h1, h2⟩ := hk
  exact fs_tryA hs hf hN hi hln ⟨hg, hdb, .inl (by rw [hx]; exact h1)⟩ tk h2 hb hsu
def KvV (K : PySem.W.Frag) (mg : Str → Option Value) (cs : List String) : Prop := ∀ c ∈ cs, ∀ C : Addr, mg (Str.ofString c) = some (.ref C) → PySem.W.kitOne K (.ref C) (.type "ValueError") = some true
theorem cls_nil {P : String → Prop} : ∀ c ∈ ([] : List String), P c := fun _ h => nomatch h
theorem cls_cons {P : String → Prop} {c : String} {cs : List String} (h : P c) (hr : ∀ x ∈ cs, P x) : ∀ x ∈ c :: cs, P x := fun x hx => by
  rcases List.mem_cons.mp hx with rfl | hx
  · exact h
  · exact hr x hx
theorem cls_at {mg : Str → Option Value} {x : Str} {C0 : Addr} {P : Addr → Prop} (m : mg x = some (.ref C0)) (h : P C0) : ∀ C : Addr, mg x = some (.ref C) → P C := fun C hC => by
  rw [m] at hC
  cases hC
  exact h
theorem exm_by {K : PySem.W.Frag} {C D : Addr} {c h : String} {b : Bool} (e : subE c h = b) (h1 : PySem.W.subIn K (.ref D) (.type "BaseException") = some true) (h2 : PySem.W.hasDictIn K D = true) (h3 : PySem.W.typeIn K (.ref D) = some (.type "type")) (h4 : PySem.W.subIn K (.ref C) (.ref D) = some b) :
    PySem.W.exmOne K (.ref C) (.ref D) = some (subE c h) := by
  rw [e]; exact PySem.W.exm_ref h1 h2 h3 h4
theorem kit_by {K : PySem.W.Frag} {C D : Addr} {c h : String} {b : Bool} (e : subE c h = b) (h2 : PySem.W.hasDictIn K D = true) (h3 : PySem.W.typeIn K (.ref D) = some (.type "type")) (h4 : PySem.W.subIn K (.ref C) (.ref D) = some b) (h5 : PySem.W.subIn K (.ref C) (.ref C) = some true) :
    PySem.W.kitOne K (.ref C) (.ref D) = some (subE c h) := by
  rw [e]
  unfold PySem.W.kitOne
  by_cases hCD : C = D
  · subst hCD
    rw [h5] at h4
    cases h4
    rw [if_pos (by simp)]
  · rw [if_neg (by simpa using hCD)]
    obtain ⟨cd, hc, _⟩ := PySem.W.any_some h2
    show (if ((PySem.W.clsIn K D).isSome && PySem.W.typeIn K (.ref D) == some (.type "type")) = true then PySem.W.subIn K (.ref C) (.ref D) else none) = some b
    rw [hc, h3]
    exact h4
theorem kitV_by {K : PySem.W.Frag} {C : Addr} (h4 : PySem.W.subIn K (.ref C) (.type "ValueError") = some true) : PySem.W.kitOne K (.ref C) (.type "ValueError") = some true := by
  unfold PySem.W.kitOne
  rw [if_neg (by simp)]
  show (if PySem.W.kitMeta "ValueError" = true then PySem.W.subIn K (.ref C) (.type "ValueError") else none) = some true
  rw [if_pos (by decide +kernel)]
  exact h4
theorem fe_globI {X : Cx} {W : WX} {x : Str} {n : Int} {pos : Pos} (hg : Gl X x) (h : ∃ t, X.mg x = some (.int n t)) (hd : (x == ("__debug__" : Str)) = false := by decide) : FE X W (.Name x pos) (eC (.int n)) := by
  obtain ⟨t, h⟩ := h
  exact fe_c (pe_glob hg h ⟨_, rfl⟩ hd)
theorem fe_globS {X : Cx} {W : WX} {x : Str} {n : Str} {pos : Pos} (hg : Gl X x) (h : ∃ t, X.mg x = some (.str n t)) (hd : (x == ("__debug__" : Str)) = false := by decide) : FE X W (.Name x pos) (eC (.str n)) := by
  obtain ⟨t, h⟩ := h
  exact fe_c (pe_glob hg h ⟨_, rfl⟩ hd)
/-! a, b = a list or a tuple -/
def gSq (K : PySem.W.Frag) (n : Nat) (t : TGs) : TG := fun v σ H Q => ∃ a xs, v = .ref a ∧ (SqL K H a xs ∨ SqT K H a xs) ∧ xs.length = n ∧ t xs σ H Q
theorem pg_sq {X : Cx} {es : List Expr} {k : Nat} {t : TGs} {n : Nat} {pos : Pos} (hc : X.calm = true) (h : PGs X es t) (hn : (assignEach es X.env).length = n := by rfl) (hst : (assignEach es X.env).findIdx? (·.1) = none := by rfl) : PG X (.Tuple es k pos) (gSq X.K n t) := by
  refine ⟨fun pins s σ H v u Q I r hw => ?_⟩
  obtain ⟨a, xs, rfl, hq, hl, hw⟩ := hw
  rcases hq with hq | hq
  · cases r
    obtain ⟨its, rv, p', hz⟩ := I.list hq
    rw [PyProof.Rows.assign_Tuple]
    refine wpAny_bind (wpAny_standAt ?_)
    unfold PySem.unpack
    rw [hst, show (assignEach es X.env).length = its.toArray.size by rw [hn, ← hl, rv.length, List.size_toArray]]
    refine wpAny_bind (wpAny_holding (PySem.W.kun_itemsOf (I.ok.hd hc) p'.isList fun h' hx => ?_))
    have I1 : Inv X pins σ H { s with heap := h' } := I.kept (t' := s.toks) fun b o e => hx b o (Nat.ne_of_lt (Heap.lt_size e)) e
    exact h.run pins _ σ H xs _ Q I1 (by simpa using rv) hw
  · exact (pg_tup hc h hn hst).run pins s σ H _ u Q I r ⟨a, xs, rfl, hq, hl, hw⟩
def gU (is : List Nat) : V → St → Sto → R St := fun v σ S => match rdLT v S with
  | some xs => if xs.length = is.length then .ok (gTs is xs σ) S else .bad
  | none => .bad
theorem fg_sq {X : Cx} {W : WX} {ts : List Expr} {is : List Nat} {k : Nat} {g : TGs} {pos : Pos} (hc : X.calm = true) (h : FGs X ts is g) (hn : (assignEach ts X.env).length = is.length := by rfl) (hst : (assignEach ts X.env).findIdx? (·.1) = none := by rfl) : FG X W (.Tuple ts k pos) (gU is) := by
  obtain ⟨h2, h3⟩ := h.run
  refine ⟨_, pg_sq (n := is.length) hc h.pgs hn hst, fun η S H σ0 σ x u Q hR hS r p => ?_⟩
  unfold gU at p
  cases e : rdLT x S with
  | none => rw [e] at p; exact p.elim
  | some xs =>
    rw [e] at p
    dsimp only at p
    by_cases hl : xs.length = is.length
    · rw [if_pos hl] at p
      obtain ⟨a, us, rfl, e2, r2, z⟩ := rdLT_ok e hR r
      refine ⟨a, us, rfl, e2, by rw [← r2.length]; exact hl, h3 us σ H Q (by rw [← r2.length]; exact hl) ?_⟩
      exact p.now hR (SR.sets hS r2)
    · rw [if_neg hl] at p; exact p.elim
end Fx
/-! Fx: list(reversed(xs)): a new list. -/
namespace RvL
open PySem PySem.Spec PyProof.Rows PySem.Calls
section
variable {prog : Program} {w : World} {A : Around} {E : Value → Shared → Prop} {s : Shared}
/-- the list's own loop over a list_reverseiterator -/
theorem rv_extend {R : Result → Shared → Prop} {it l S : Addr} {items : Array Value} (hh : A.handled = none) (hit : s.heap.IsRevIter it l ((items.size : Int) - 1)) (hl : s.heap.IsList l items) (hne : l ≠ it) (hn : items.size ≤ sizeLine) (hSi : S ≠ it) (hSl : S ≠ l) (c₀ : Nat)
    (hS : s.heap.get? S = some { cls := .type "list", data := .seq #[] c₀ })
    (hR : ∀ h' tk acc' c', (∀ b o, b ≠ S → b ≠ it → s.heap.get? b = some o → h'.get? b = some o) → h'.get? S = some { cls := .type "list", dict := none, data := .seq acc' c', slots := #[] } → ItemsOf (fun i v => items[items.size - 1 - i]? = some v) acc' items.size → R (.ok (.ret .none)) { s with heap := h', toks := tk }) :
    wpAny (model prog w) A.in1 (Builtin.List.listExtendWith (.ref S) (.ref it) .none) (fun fin s' => match fin with | .done f => R (.ok f) s' | .again c' => c'.quiet = true ∧ codeAny (model prog w) A c' R s') (fun e s' => R (.error e) s') s := by
  have W := (Walks.listRev (prog := prog) (w := w) (A := A.in1) hh it l hne items).toS
  have hSf : S ∉ [it, l] := by simp only [List.mem_cons, List.not_mem_nil, or_false, not_or]; exact ⟨hSi, hSl⟩
  have hT : s.TypeIs (.ref it) "list_reverseiterator" := Heap.IsRevIter.typeIs hit
  have hsame : Builtin.List.listSameRef (.ref S) (.ref it) = false := by simp [Builtin.List.listSameRef, hSi]
  unfold Builtin.List.listExtendWith
  refine wpAny_bind (wpAny_typeOf hT ?_)
  rw [if_neg (by rw [hsame]; decide)]
  refine wpAny_bind (wpAny_pyIter_revIter hit (wpAny_bind (wpAny_holding ?_)))
  unfold Builtin.List.listLengthHint
  refine wpAny_bind (wpAny_specialOf hT RT.nolen_lri ?_)
  show wpAny _ _ (specialOf (Value.ref it) (Str.ofString "__length_hint__") >>= _) _ _ _
  refine wpAny_bind (wpAny_specialOf hT RT.hint_lri ?_)
  generalize hid : ("list_reverseiterator.__length_hint__" : String) = id0
  wp_delta
  have hsp : splitId id0 = some ("list_reverseiterator", "__length_hint__") := by subst hid; decide +kernel
  rw [hsp]
  subst hid
  refine wpAny_bind (wpAny_isInstance (T := "list_reverseiterator") (b := true) hT (by rw [isSubtype_type]; kernel_rfl) ?_)
  refine wpAny_pure ?_
  rw [if_neg (by decide)]
  have e0 : ((items.size : Nat) : Int) - 1 - ((0 : Nat) : Int) = (items.size : Int) - 1 := by omega
  refine wpAny_pure ⟨plainId_quiet F.plain_extend_loop _, codeAny_extend_loopS W hn S hSf _ items.size 0 _ #[] c₀ rfl (Nat.zero_le _) ⟨Nat.zero_le _, by rw [e0]; exact hit, hl⟩ hS (ItemsOf.nil _) fun s' acc' c' hm hS' hacc => ?_⟩
  rw [Moved.eq_with hm]
  refine hR s'.heap s'.toks acc' c' (fun b o hb hb2 e => hm.heap b o (fun hmem => ?_) e) hS' hacc
  rcases List.mem_cons.mp hmem with z | z
  · exact hb z
  · exact hb2 (List.mem_singleton.mp z)
theorem call_list_rev {Q : Value → Shared → Prop} {it l : Addr} {items : Array Value} (hh : A.handled = none) (hit : s.heap.IsRevIter it l ((items.size : Int) - 1)) (hl : s.heap.IsList l items) (hne : l ≠ it) (hn : items.size ≤ sizeLine)
    (hQ : ∀ h' tk acc' c', (∀ b o, b ≠ it → s.heap.get? b = some o → h'.get? b = some o) → h'.get? s.heap.objs.size = some { cls := .type "list", dict := none, data := .seq acc' c', slots := #[] } → ItemsOf (fun i v => items[items.size - 1 - i]? = some v) acc' items.size → Q (.ref s.heap.objs.size) { s with heap := h', toks := tk }) :
    wpAny (model prog w) A (call (.type "list") [.ref it]) Q E s := by
  refine callType_codes (Q₁ := fun obj s₁ => obj = .ref s.heap.objs.size ∧ s₁ = { s with heap := s.heap.push { cls := .type "list", data := .seq #[] } }) PySem.F.called_list (PySem.F.typeCall_list_1 _) PySem.F.entry_list_init (code_list_new _ ⟨rfl, rfl⟩) fun obj s₁ h₁ => ?_
  obtain ⟨rfl, rfl⟩ := h₁
  have hS : (s.heap.push { cls := .type "list", data := .seq #[] }).get? s.heap.objs.size = some { cls := .type "list", data := .seq #[] } := Heap.get?_push_size _ rfl
  obtain ⟨oi, hoi, _⟩ := id hit
  obtain ⟨ol, hol, _⟩ := id hl
  have hSi : s.heap.objs.size ≠ it := Nat.ne_of_gt (Heap.lt_size hoi)
  have hSl : s.heap.objs.size ≠ l := Nat.ne_of_gt (Heap.lt_size hol)
  refine ⟨⟨_, hS, rfl⟩, PySem.F.args_list_init_2 _ _, ?_⟩
  show wpAny _ _ (do let old ← Builtin.List.listItems (.ref _); Builtin.List.listUpdate (.ref _) (fun _ => #[]); letGo old.toList.reverse; Builtin.List.listExtendWith (.ref _) (.ref it) .none) _ _ _
  refine wpAny_bind ?_
  unfold Builtin.List.listItems
  refine wpAny_bind (wpAny_seqItems hS rfl (wpAny_pure ?_))
  show wpAny _ _ (updateSeq _ (fun _ => #[]) >>= fun _ => letGo (#[] : Array Value).toList.reverse >>= fun _ => Builtin.List.listExtendWith (.ref _) (.ref it) .none) _ _ _
  refine wpAny_bind (wpAny_updateSeq hS rfl ?_)
  have hS₂ := Heap.get?_update_self (Obj.mapSeq (fun _ => (#[] : Array Value))) hS rfl
  have old : ∀ b o, s.heap.get? b = some o → ((s.heap.push { cls := .type "list", data := .seq #[] }).update s.heap.objs.size (Obj.mapSeq (fun _ => (#[] : Array Value)))).get? b = some o :=
    fun b o e => (Heap.get?_update_other _ _ (Nat.ne_of_gt (Heap.lt_size e))).trans (Heap.get?_push_of_some _ e)
  refine wpAny_bind (wpAny_letGo ?_)
  refine rv_extend (A := A.in1) hh (hit.at fun o e => old it o e) (hl.at fun o e => old l o e) hne hn hSi hSl _ hS₂ fun h' tk acc' c' hk hS' hacc => ?_
  exact ⟨rfl, hQ h' tk acc' c' (fun b o hb e => hk b o (Nat.ne_of_lt (Heap.lt_size e)) hb (old b o e)) hS' hacc⟩
end
end RvL
namespace Fx
open PySem PySem.Spec L2
open PyProof.Rows hiding St
section
variable {X : Cx} {W : WX} {η : List Addr} {S : Sto} {H : Hp}
def tLstRev (K : PySem.W.Frag) (te : TE) : TE := fun σ H Q => te σ H fun v H1 => ∃ (a : Addr) (xs : List V), v = .ref a ∧ SqL K H1 a xs ∧ ∀ q, H1 q = none → Q (.ref q) (upd H1 q (.lst xs.reverse))
theorem pe_listRev {e : Expr} {te : TE} {p p2 pos pos2 : Pos} (hc : X.calm = true) (hg : Gl X "list") (hm : X.mg "list" = none) (hg2 : Gl X "reversed") (hm2 : X.mg "reversed" = none) (he : PE X e te) (hs : starEach [e] X.env = (false, eval e X.env) :: starEach [] X.env := by rfl)
    (hs2 : starEach [.Call (.Name "reversed" p2) [e] [] pos2] X.env = (false, eval (.Call (.Name "reversed" p2) [e] [] pos2) X.env) :: starEach [] X.env := by rfl) : PE X (.Call (.Name "list" p) [.Call (.Name "reversed" p2) [e] [] pos2] [] pos) (tLstRev X.K te) := by
  refine ⟨fun pins s σ H Q I h => ?_⟩
  refine Call_ (ld_blt I hg hm boot_list (PyProof.Rows.callWith_type1 (args_cons (Call_ (ld_blt I hg2 hm2 PyProof.Rows.boot_reversed (PyProof.Rows.callWith_type1 (args_cons (thn (he.run pins s σ H _ I h) fun u s1 ⟨v, H1, I1, r1, q1⟩ => args_nil ?_) hs) hs rfl))) hs2) hs2 rfl))
  obtain ⟨a, xs, rfl, hq, q⟩ := q1
  obtain rfl : u = Value.ref a := r1
  obtain ⟨its, rv, p', hz⟩ := I1.list hq
  have hl := p'.isList
  obtain ⟨ol, hol, _⟩ := id hl
  have hne : a ≠ s1.heap.objs.size := Nat.ne_of_lt (Heap.lt_size hol)
  refine call_reversed_list hl (args_nil ?_)
  have I2 : Inv X pins σ H1 { s1 with heap := s1.heap.push (revObj a ((its.toArray.size : Int) - 1)) } := I1.kept (t' := s1.toks) fun b o e => Heap.get?_push_of_some _ e
  have fp := I1.fpOk (H' := H1) (b := s1.heap.objs.size) (Nat.le_refl _) (I1.hok.fresh (Nat.le_refl _))
  refine RvL.call_list_rev (s := { s1 with heap := s1.heap.push (revObj a ((its.toArray.size : Int) - 1)) }) (I1.ok.hd hc) ⟨_, Heap.get?_push_size _ rfl, rfl, rfl⟩ (hl.push _) hne (by rw [List.size_toArray, ← rv.length]; exact hz) fun h' tk acc c' hk hS hi => ?_
  refine ⟨.ref (s1.heap.push (revObj a ((its.toArray.size : Int) - 1))).objs.size, upd H1 (s1.heap.push (revObj a ((its.toArray.size : Int) - 1))).objs.size (.lst xs.reverse), I2.turnedNew (ch := [s1.heap.objs.size]) (fun b o hb e => hk b o (fun z => hb (by rw [z]; exact List.mem_singleton.mpr rfl)) e) (fun b hb => by rw [List.mem_singleton.mp hb]; exact fp) (Nat.le_refl _)
    (show ObjOk X.prog X.w _ _ _ (.lst xs.reverse) from ⟨by rw [List.length_reverse]; exact hz, acc.toList, c', RT.vals_rev rv hi, by rw [Array.toArray_toList]; exact hS⟩), rfl, q _ (I2.hok.fresh (Nat.le_refl _))⟩
def revL (x : V) (S : Sto) : R V := match rdL x S with
  | some xs => alloc (.lst xs.reverse) S
  | none => .bad
def eLRv (m : St → Sto → R V) : St → Sto → R V := fun σ S => (m σ S).bind fun x S1 => revL x S1
theorem fe_listRev {e : Expr} {m : St → Sto → R V} {p p2 pos pos2 : Pos} (hc : X.calm = true) (hg : Gl X "list") (hm : X.mg "list" = none) (hg2 : Gl X "reversed") (hm2 : X.mg "reversed" = none) (he : FE X W e m) (hs : starEach [e] X.env = (false, eval e X.env) :: starEach [] X.env := by rfl)
    (hs2 : starEach [.Call (.Name "reversed" p2) [e] [] pos2] X.env = (false, eval (.Call (.Name "reversed" p2) [e] [] pos2) X.env) :: starEach [] X.env := by rfl) : FE X W (.Call (.Name "list" p) [.Call (.Name "reversed" p2) [e] [] pos2] [] pos) (eLRv m) :=
  ⟨PE.wk (pe_listRev hc hg hm hg2 hm2 he.run hs hs2) fun σ H Q h => by
    obtain ⟨η, S, σ0, hR, hS, p⟩ := h
    refine ⟨η, S, σ0, hR, hS, (Po.bind (rel := VR) p).imp fun u H1 ⟨η1, S1, v, e1, hR1, r1, p1⟩ => ?_⟩
    unfold revL at p1
    cases e : rdL v S1 with
    | none => rw [e] at p1; exact p1.elim
    | some xs =>
      rw [e] at p1
      obtain ⟨a, us, rfl, hq, r2, z⟩ := rdL_ok e hR1 r1
      exact ⟨a, us, rfl, hq, p1.lst hR1 (prev r2) (by rw [List.length_reverse]; exact z)⟩⟩
end
end Fx
/-! Fx: x is True, x is not False; the empty dict. -/
namespace Fx
open PySem PySem.Spec L2
open PyProof.Rows hiding St
variable {K : PySem.W.Frag} {η : List Addr} {S : Sto} {H : Hp}
section
variable {X : Cx} {W : WX} {pos : Pos}
theorem plain_b {M : Model} {A : Around} {E : Value → Shared → Prop} {s : Shared} {x : V} {u : Value} {b : Bool} {R : Bool → Shared → Prop} (r : RelV x u)
    (q : R (decide (x = .bl b)) s) : wpAny M A (isSame u (.bool b)) R E s := by
  have ne_ : ∀ {u : Value}, plainIs u (.bool b) = true → (u == Value.bool b) = decide (x = .bl b) → wpAny M A (isSame u (.bool b)) R E s := fun h1 h2 => wpAny_isSame_plain h1 (by rw [h2]; exact q)
  cases x with
  | ref a => cases r; exact ne_ rfl (by simp)
  | non => cases r; exact ne_ rfl (by simp)
  | bl c => cases r; exact ne_ rfl (by cases b <;> cases c <;> rfl)
  | int i => obtain ⟨t, rfl⟩ := r; exact ne_ rfl (by simp)
  | str x => obtain ⟨t, rfl⟩ := r; exact ne_ rfl (by simp)
  | byt x => obtain ⟨t, rfl⟩ := r; exact ne_ rfl (by simp)
  | flt x => obtain ⟨t, rfl⟩ := r; exact ne_ rfl (by simp)
  | ty n => cases r; exact ne_ rfl (by simp)
def rIsB : R2 := fun x y H Q => ∃ b, y = .bl b ∧ Q (.bl (decide (x = .bl b))) H
def rNotB : R2 := fun x y H Q => ∃ b, y = .bl b ∧ Q (.bl (!decide (x = .bl b))) H
theorem op_isB : OpR X (compareOp .Is) rIsB := by
  intro pins s σ H x y v u Q I rx ry h
  obtain ⟨b, rfl, q⟩ := h
  cases ry
  show wpAny _ _ ((isSame v (Value.bool b)) >>= fun z => pure (Value.bool z)) _ _ s
  exact wpAny_bind (plain_b (b := b) rx (wpAny_pure (fin_bl I q rfl)))
theorem op_notB : OpR X (compareOp .IsNot) rNotB := by
  intro pins s σ H x y v u Q I rx ry h
  obtain ⟨b, rfl, q⟩ := h
  cases ry
  show wpAny _ _ ((isSame v (Value.bool b)) >>= fun z => pure (Value.bool (!z))) _ _ s
  exact wpAny_bind (plain_b (b := b) rx (wpAny_pure (fin_bl I q rfl)))
def isBM : V → V → Sto → R V := fun x y S => match y with
  | .bl b => .ok (.bl (decide (x = .bl b))) S
  | _ => .bad
def notBM : V → V → Sto → R V := fun x y S => match y with
  | .bl b => .ok (.bl (!decide (x = .bl b))) S
  | _ => .bad
theorem VR.blq {x u : V} (b : Bool) (h : VR η x u) : decide (u = .bl b) = decide (x = .bl b) := by
  cases x with
  | ref n => obtain ⟨a, _, rfl⟩ := h; rfl
  | _ => rw [show u = _ from h]
theorem isBM_ok : OpM X rIsB isBM := by
  intro W σ η S H x y u v Q hR hx hy p
  cases y with
  | bl b =>
    cases show v = V.bl b from hy
    exact ⟨b, rfl, p.now hR (show V.bl (decide (u = .bl b)) = V.bl (decide (x = .bl b)) by rw [hx.blq b])⟩
  | _ => exact p.elim
theorem notBM_ok : OpM X rNotB notBM := by
  intro W σ η S H x y u v Q hR hx hy p
  cases y with
  | bl b =>
    cases show v = V.bl b from hy
    exact ⟨b, rfl, p.now hR (show V.bl (!decide (u = .bl b)) = V.bl (!decide (x = .bl b)) by rw [hx.blq b])⟩
  | _ => exact p.elim
/-! {} -/
def eDnew : St → Sto → R V := fun _ S => alloc (.dK []) S
theorem fe_dnew : FE X W (.Dict [] [] pos) eDnew := ⟨PE.wk pe_dnewK fun σ H Q h => by
  obtain ⟨η, S, σ0, hR, hS, p⟩ := h
  exact fun q hq => p (η ++ [q]) _ _ (Ext.new hR hq _) (hR.new hq (o := .dK []) ⟨Nat.zero_le _, [], upd_same, .nil⟩ rfl) (VR.new hR)⟩
end
end Fx
/-! Fx: a def whose last parameter has a whole number as its default. -/
namespace Fx
open PySem PySem.Spec L2
open PyProof.Rows hiding St
variable {K : PySem.W.Frag} {η : List Addr} {S : Sto} {H : Hp}
structure DfD (P : Program) (w : World) (K : PySem.W.Frag) (mg : Str → Option Value) (base : Heap) (x : Str) (k n : Nat) (dv : Int) (m : List V → Sto → R V) : Prop where
  ex : ∃ (f : Addr) (fd : FuncData) (ps : List Str) (ds : List Value), FnOk P w K mg base (L2.CX P w) k f fd ps (spM K mg (n + 1) m) ∧ mg x = some (.ref f) ∧ PySem.W.keepIn K (.ref f) = true ∧ Binds K fd ps ds ∧ Vals [.int dv] ds
def eClD (n : Nat) (dv : Int) (m : List V → Sto → R V) (ma : St → Sto → R (List V)) : St → Sto → R V := fun σ S => (ma σ S).bind fun vs S1 => if vs.length = n then m (vs ++ [.int dv]) S1 else .bad
theorem fe_callD {X : Cx} {W : WX} {e : Expr} {pos : Pos} {x : Str} {p : Pos} {es : List Expr} {j k n : Nat} {dv : Int} {m : List V → Sto → R V} {mr : St → Sto → R (List V)} (D : DfD X.prog X.w X.K X.mg X.base x k n dv m) (hr : Room j X.A) (hj : k ≤ j) (hg : Gl X x)
    (tk : Takes X W) (ha : FA X W (e :: es) mr) (hl : (e :: es).length = n := by rfl) (hdb : (x == ("__debug__" : Str)) = false := by decide)
    (he : starEach (e :: es) X.env = (false, eval e X.env) :: starEach es X.env := by rfl) (hpl : (backTo pos (starEach es X.env)).any (·.1) = false := by rfl) : FE X W (.Call (.Name x p) (e :: es) [] pos) (eClD n dv m mr) := by
  obtain ⟨f, fd, ps, ds, h1, h2, h3, h4, h5⟩ := D.ex
  exact ⟨PE.wk (pe_callSD h1 (hr.mono hj) hg h2 h3 h4 h5 (passAt tk) ha.run hdb he hpl) fun σ H Q h => by
    obtain ⟨η, S, σ0, hR, hS, p⟩ := h
    refine ⟨η, S, σ0, hR, hS, (Po.bind (rel := VsR) p).imp fun u H1 ⟨η1, S1, v, e1, hR1, r1, p1⟩ => ?_⟩
    by_cases hv : v.length = n
    · rw [if_pos hv] at p1
      refine ⟨by rw [List.length_append, ← r1.length, hv]; rfl, η1, S1, v ++ [.int dv], hR1, papp r1 (show VsR η1 [V.int dv] [V.int dv] from .cons (show V.int dv = V.int dv from rfl) .nil), ?_⟩
      cases e : m (v ++ [.int dv]) S1 with
      | ok w S2 => rw [e] at p1; exact p1
      | exc c S2 => rw [e] at p1; exact p1
      | bad => rw [e] at p1; exact p1
    · rw [if_neg hv] at p1; exact p1.elim⟩
variable {P : Program} {w : World} {mg : Str → Option Value} {base : Heap}
abbrev FunD' (K : PySem.W.Frag) (x : Str) (st : Stmt) (dv : Int) (f : Addr) (fd : FuncData) : Prop := FunD K x x (defArgs st) (defBody st) (defScope st) [.int dv] [] f fd
theorem fn_okD {x : Str} {st : Stmt} {dv : Int} {f : Addr} {fd : FuncData} {N ps : List Str} {k : Nat} {c : St → Sto → R Fl} (F : FunD' K x st dv f fd) (S : FnScope N ps (defScope st)) (n : Nat) (hn : ps.length = n) (nN : Nat) (hN : N.length = nN)
    (hbody : ∀ (cdv : Value) (A : Around) (outer : List Env) (s : Shared) (H : Hp) (E : XK), Room k (A.deeper (envOfC x (defScope st) s.heap.objs.size f cdv)) → Takes (cxOf (L2.CX P w) P w K mg base N x (defScope st) f cdv A outer s H E) (fun cls d _ H => E cls d H) →
      PassesOwn (model P w) (A.deeper (envOfC x (defScope st) s.heap.objs.size f cdv)) (envOfC x (defScope st) s.heap.objs.size f cdv) (cxOf (L2.CX P w) P w K mg base N x (defScope st) f cdv A outer s H E).xe →
      FSs (cxOf (L2.CX P w) P w K mg base N x (defScope st) f cdv A outer s H E) (fun cls d _ H => E cls d H) (defBody st) c) : FnOk P w K mg base (L2.CX P w) (k + 1) f fd ps (spM K mg n (runF nN c)) := by
  refine F.ok S (fun vs H Q E h => h.1.trans hn.symm) fun cdv A outer s H vs Q E hr h => ?_
  refine ⟨_, (hbody cdv A outer s H E hr (takes_of rfl rfl rfl rfl) (passes_of (X := cxOf (L2.CX P w) P w K mg base N x (defScope st) f cdv A outer s H E) rfl)).run, ?_⟩
  obtain ⟨hl, η, S, vs0, hR, hv, p⟩ := h
  refine ⟨η, S, _, hR, SR.start hv N, ?_⟩
  unfold runF finF at p
  rw [← hN] at p
  cases e : c (vs0.map some ++ List.replicate (N.length - vs0.length) none) S with
  | ok fl S' =>
    rw [e] at p
    cases fl with
    | nx σ => exact fun η' H' σ1 e' r q => p η' H' .non e' r rfl
    | rt v => exact p
    | rs cc σ => exact fun η' H' σ1 C e' r q z => p η' H' C e' r z
    | bk σ => exact p.elim
    | ct σ => exact p.elim
  | exc cc S' => rw [e] at p; exact p.elim
  | bad => rw [e] at p; exact p.elim
theorem fun_mkD {x : Str} {st : Stmt} {dv : Int} {f T : Addr} {oc toc : Value} {od an tod : Option Addr} {osl tsl : Array (Option Value)} {kV doc pm cdv ct : Value} {tt : Tok} {tn : Nat}
    (l : K.lookup f = some ⟨oc, od, .func (PySem.W.fnOf x x (defArgs st) (defBody st) (defScope st) (.ref T) kV doc pm an cdv ct), osl⟩) (h : PySem.W.codeIn K cdv x = true) (k : PySem.W.keepIn K (.ref f) = true)
    (m : K.lookup T = some ⟨toc, tod, .seq #[.int dv tt] tn, tsl⟩) : FunD' K x st dv f (PySem.W.fnOf x x (defArgs st) (defBody st) (defScope st) (.ref T) kV doc pm an cdv ct) :=
  ⟨⟨oc, od, .ref T, kV, doc, pm, an, cdv, ct, osl, rfl, l, h, .inr ⟨by simp, T, _, [.int dv tt], tn, rfl, m, rfl, .cons ⟨tt, rfl⟩ .nil⟩, .inl rfl⟩, k⟩
theorem Binds.nil' {fd : FuncData} {ps : List Str} (h : ∃ ds, Vals [] ds ∧ Binds K fd ps ds) : Binds K fd ps [] := by
  obtain ⟨ds, v, b⟩ := h
  cases v
  exact b
end Fx
/-! Fx: dicts by whole numbers and texts: d[k], d[k] = v, k in d, d.get(k), len(d), sorted(d), {k: v}. -/
namespace Fx
open PySem PySem.Spec L2
open PyProof.Rows hiding St
variable {K : PySem.W.Frag} {η : List Addr} {S : Sto} {H : Hp}
def rdK (x : V) (S : Sto) : Option (List (Key × V)) := match x with
  | .ref n => match S[n]? with
    | some (.dK kvs) => some kvs
    | _ => none
  | _ => none
def keyOf (x : V) : Option Key := match x with
  | .int i => some (.inl i)
  | .str s => some (.inr s)
  | _ => none
theorem keyOf_ok {x u : V} {k : Key} (h : keyOf x = some k) (r : VR η x u) : u = kV k := by
  cases x with
  | int i => cases h; exact r
  | str i => cases h; exact r
  | _ => cases h
abbrev KP (η : List Addr) : List (Key × V) → List (Key × V) → Prop := Paired fun p q => p.1 = q.1 ∧ VR η p.2 q.2
theorem rdK_ok {x u : V} {kvs : List (Key × V)} (h : rdK x S = some kvs) (hR : Rel K η S H) (r : VR η x u) : ∃ (n : Nat) (a : Addr) (us : List (Key × V)), x = .ref n ∧ η[n]? = some a ∧ S[n]? = some (.dK kvs) ∧ u = .ref a ∧ H a = some (.dK us) ∧ KP η kvs us ∧ kvs.length ≤ sizeLine := by
  cases x with
  | ref n =>
    obtain ⟨a, ea, rfl⟩ := r
    have h : (match S[n]? with
      | some (.dK kvs) => some kvs
      | _ => none) = some kvs := h
    cases ho : S[n]? with
    | none => rw [ho] at h; cases h
    | some o =>
      rw [ho] at h
      cases o with
      | dK xs =>
        cases h
        obtain ⟨z, us, e, p⟩ := hR.ob n a _ ea ho
        exact ⟨n, a, us, rfl, ea, ho, rfl, e, p, z⟩
      | _ => cases h
  | _ => cases h
theorem KP.val {kvs us : List (Key × V)} (h : KP η kvs us) (k : Key) : (∃ v u, valV kvs k = some v ∧ valV us k = some u ∧ VR η v u) ∨ (valV kvs k = none ∧ valV us k = none) := by
  induction h with
  | nil => exact .inr ⟨rfl, rfl⟩
  | @cons p q ps qs r t ih =>
    by_cases e : p.1 = k
    · exact .inl ⟨p.2, q.2, valV_pos e, valV_pos (by rw [← r.1]; exact e), r.2⟩
    · rw [valV_neg e, valV_neg (by rw [← r.1]; exact e)]
      exact ih
theorem KP.put {kvs us : List (Key × V)} (h : KP η kvs us) (k : Key) {v u : V} (r : VR η v u) : KP η (putK kvs k v) (putK us k u) := by
  have any : (kvs.any fun kv => decide (kv.1 = k)) = (us.any fun kv => decide (kv.1 = k)) := by
    induction h with
    | nil => rfl
    | cons r t ih => rw [List.any_cons, List.any_cons, ih, r.1]
  unfold putK
  rw [any]
  split
  · rename_i hx
    clear any hx
    induction h with
    | nil => exact .nil
    | @cons p q ps qs r' t ih =>
      refine .cons ?_ ih
      show (if p.1 = k then (p.1, v) else p).1 = (if q.1 = k then (q.1, u) else q).1 ∧ VR η (if p.1 = k then (p.1, v) else p).2 (if q.1 = k then (q.1, u) else q).2
      by_cases e : p.1 = k
      · rw [if_pos e, if_pos (by rw [← r'.1]; exact e)]; exact ⟨r'.1, r⟩
      · rw [if_neg e, if_neg (by rw [← r'.1]; exact e)]; exact ⟨r'.1, r'.2⟩
  · exact papp h (.cons ⟨rfl, r⟩ .nil)
theorem KP.len {kvs us : List (Key × V)} (h : KP η kvs us) : kvs.length = us.length := Paired.length h
section
variable {X : Cx} {W : WX} {a b : Expr} {ma mb : St → Sto → R V} {pos apos cpos : Pos}
/-! d[k] -/
def dixM : V → V → Sto → R V := fun x y S => match rdK x S with
  | some kvs => match keyOf y with
    | some k => match valV kvs k with
      | some v => .ok v S
      | none => .bad
    | none => .bad
  | none => .bad
def rDix : R2 := fun x y H Q => ∃ a v, x = .ref a ∧ DGet H a y (some v) ∧ Q v H
theorem dixM_ok : OpM X rDix dixM := by
  intro W σ η S H x y u v Q hR hx hy p
  unfold dixM at p
  cases e : rdK x S with
  | none => rw [e] at p; exact p.elim
  | some kvs =>
    obtain ⟨n, a, us, rfl, ea, ho, rfl, hu, kp, z⟩ := rdK_ok e hR hx
    rw [e] at p
    cases ek : keyOf y with
    | none => rw [ek] at p; exact p.elim
    | some k =>
      cases keyOf_ok ek hy
      rw [ek] at p
      dsimp only at p
      rcases kp.val k with ⟨v, w, h1, h2, r⟩ | ⟨h1, h2⟩
      · rw [h1] at p
        exact ⟨a, w, rfl, h2 ▸ DGet.k hu, p.now hR r⟩
      · rw [h1] at p; exact p.elim
theorem fe_dix (hu : X.A.units + 1 < cLine) (ha : FE X W a ma) (hb : FE X W b mb) (hs : NoSl b := by intro _ _; rfl) : FE X W (.Subscript a b pos) (eO dixM ma mb) :=
  ⟨PE.wk (pe_dget hu ha.run hb.run hs) fun σ H Q h => lf_bin dixM_ok h⟩
/-! k in d -/
def dinM (neg : Bool) : V → V → Sto → R V := fun y x S => match rdK x S with
  | some kvs => match keyOf y with
    | some k => .ok (.bl (if neg = true then !(valV kvs k).isSome else (valV kvs k).isSome)) S
    | none => .bad
  | none => .bad
def rDin (neg : Bool) : R2 := fun y x H Q => ∃ a o, x = .ref a ∧ DGet H a y o ∧ Q (.bl (if neg = true then !o.isSome else o.isSome)) H
theorem dinM_ok {neg : Bool} : OpM X (rDin neg) (dinM neg) := by
  intro W σ η S H y x v u Q hR hy hx p
  unfold dinM at p
  cases e : rdK x S with
  | none => rw [e] at p; exact p.elim
  | some kvs =>
    obtain ⟨n, a, us, rfl, ea, ho, rfl, hu, kp, z⟩ := rdK_ok e hR hx
    rw [e] at p
    cases ek : keyOf y with
    | none => rw [ek] at p; exact p.elim
    | some k =>
      cases keyOf_ok ek hy
      rw [ek] at p
      refine ⟨a, _, rfl, DGet.k hu, p.now hR ?_⟩
      rcases kp.val k with ⟨v, w, h1, h2, r⟩ | ⟨h1, h2⟩
      · rw [h1, h2]; rfl
      · rw [h1, h2]; rfl
theorem fe_din (hu : X.A.units + 1 < cLine) (ha : FE X W a ma) (hb : FE X W b mb) (hk : behindInMarks .In b = false := by rfl) : FE X W (.Compare a [.In] [b] pos) (eO (dinM false) ma mb) :=
  ⟨PE.wk (pe_cmp (pc_din hu ha.run hb.run) hk) fun σ H Q h => lf_bin (dinM_ok (neg := false)) h⟩
theorem fe_dnin (hu : X.A.units + 1 < cLine) (ha : FE X W a ma) (hb : FE X W b mb) (hk : behindInMarks .NotIn b = false := by rfl) : FE X W (.Compare a [.NotIn] [b] pos) (eO (dinM true) ma mb) :=
  ⟨PE.wk (pe_cmp (pc_dnotin hu ha.run hb.run) hk) fun σ H Q h => lf_bin (dinM_ok (neg := true)) h⟩
theorem ft_din (hu : X.A.units + 1 < cLine) (ha : FE X W a ma) (hb : FE X W b mb) (hk : behindInMarks .In b = false := by rfl) : FT X W (.Compare a [.In] [b] pos) (tV (eO (dinM false) ma mb)) :=
  ⟨PT.wk (pt_cmp (pc_din hu ha.run hb.run) hk) fun σ H Q h => tV_of (fun σ H Q h => lf_bin (dinM_ok (neg := false)) h) h⟩
theorem ft_dnin (hu : X.A.units + 1 < cLine) (ha : FE X W a ma) (hb : FE X W b mb) (hk : behindInMarks .NotIn b = false := by rfl) : FT X W (.Compare a [.NotIn] [b] pos) (tV (eO (dinM true) ma mb)) :=
  ⟨PT.wk (pt_cmp (pc_dnotin hu ha.run hb.run) hk) fun σ H Q h => tV_of (fun σ H Q h => lf_bin (dinM_ok (neg := true)) h) h⟩
/-! d[k] = v -/
def setD : V → V → V → Sto → R Unit := fun o i v S => match o with
  | .ref n => match rdK (.ref n) S with
    | some kvs => match keyOf i with
      | some k => if kvs.length < lim then .ok () (S.set n (.dK (putK kvs k v))) else .bad
      | none => .bad
    | none => .bad
  | _ => .bad
theorem setD_ok : SetM X rSetD setD := by
  intro W σ η S H o i v uo ui uv Q hR ho hi hv p
  unfold setD at p
  split at p
  · rename_i n
    split at p
    · rename_i kvs e
      obtain ⟨n', a, us, e', ea, hS, rfl, hu, kp, z⟩ := rdK_ok e hR ho
      cases e'
      split at p
      · rename_i k ek
        cases keyOf_ok ek hi
        split at p
        · rename_i hl
          have hl' : kvs.length < sizeLine := hl
          have hz : (putK kvs k v).length ≤ sizeLine := by have := length_putK kvs k v; omega
          refine ⟨a, _, rfl, DPut.k hu (by rw [← kp.len]; exact hl'), ?_⟩
          exact p η _ () (Ext.set hR ea hS rfl) (hR.set ea hS rfl ⟨hz, _, upd_same, kp.put k hv⟩ rfl) trivial
        · exact p.elim
      · exact p.elim
    · exact p.elim
  · exact p.elim
/-! d.get(k) -/
def eGet (mo mk : St → Sto → R V) : St → Sto → R V := fun σ S => (mo σ S).bind fun x S1 => match rdK x S1 with
  | some _ => (mk σ S1).bind fun y S2 => match rdK x S2 with
    | some kvs => match keyOf y with
      | some k => .ok ((valV kvs k).getD .non) S2
      | none => .bad
    | none => .bad
  | none => .bad
theorem fe_get1 (hu : X.A.units + 1 < cLine) (ha : FE X W a ma) (hb : FE X W b mb) (m : M1 X a "get" apos b cpos := by exact ⟨rfl, rfl, rfl, rfl⟩) : FE X W (.Call (.Attribute a "get" apos) [b] [] cpos) (eGet ma mb) :=
  ⟨PE.wk (pe_dget1 hu ha.run hb.run m) fun σ H Q h => by
    obtain ⟨η, S, σ0, hR, hS, p⟩ := h
    refine ⟨η, S, σ0, hR, hS, (Po.bind (rel := VR) p).imp fun u H1 ⟨η1, S1, v, e1, hR1, r1, p1⟩ => ?_⟩
    cases e : rdK v S1 with
    | none => rw [e] at p1; exact p1.elim
    | some kvs =>
      obtain ⟨n, a', us, rfl, ea, ho, rfl, hu', kp, z⟩ := rdK_ok e hR1 r1
      rw [e] at p1
      refine ⟨a', rfl, .inl ⟨us, .inl hu'⟩, η1, S1, σ0, hR1, hS.mono e1.1, (Po.bind (rel := VR) p1).imp fun w H2 ⟨η2, S2, y, e2, hR2, r2, p2⟩ => ?_⟩
      cases e' : rdK (.ref n) S2 with
      | none => rw [e'] at p2; exact p2.elim
      | some kvs2 =>
        obtain ⟨n', a2, us2, en, ea2, ho2, e3, hu2, kp2, z2⟩ := rdK_ok e' hR2 (r1.mono e2.1)
        cases e3
        rw [e'] at p2
        cases ek : keyOf y with
        | none => rw [ek] at p2; exact p2.elim
        | some k =>
          cases keyOf_ok ek r2
          rw [ek] at p2
          refine ⟨_, DGet.k hu2, p2.now hR2 ?_⟩
          rcases kp2.val k with ⟨v, w, h1, h2, r⟩ | ⟨h1, h2⟩
          · rw [h1, h2]; exact r
          · rw [h1, h2]; exact (show V.non = V.non from rfl)⟩
/-! len(d), sorted(d) -/
def lenDM : List V → Sto → R V := fun vs S => match vs with
  | [x] => match rdK x S with
    | some kvs => .ok (.int kvs.length) S
    | none => .bad
  | _ => .bad
theorem lenDM_ok : CallM X (fun xs H Q => ∃ a kvs, xs = [V.ref a] ∧ H a = some (.dK kvs) ∧ Q (.int kvs.length) H) lenDM := by
  intro W σ η S H xs us Q hR hx p
  unfold lenDM at p
  split at p
  · rename_i x
    obtain ⟨u, rfl, r⟩ := VsR.one hx
    split at p
    · rename_i kvs h
      obtain ⟨n, a, us, rfl, ea, ho, rfl, hu, kp, z⟩ := rdK_ok h hR r
      exact ⟨a, us, rfl, hu, p.now hR (show V.int _ = V.int _ by rw [kp.len])⟩
    · exact p.elim
  · exact p.elim
def intKeys : List (Key × V) → Option (List Int)
  | [] => some []
  | (.inl i, _) :: r => (intKeys r).map (i :: ·)
  | (.inr _, _) :: _ => none
theorem intKeys_eq : ∀ {kvs us : List (Key × V)} {ks : List Int}, intKeys kvs = some ks → KP η kvs us → us.map (·.1) = ks.map Sum.inl
  | [], _, _, h, .nil => by cases h; rfl
  | (.inl i, _) :: r, _, _, h, .cons q t => by
    unfold intKeys at h
    cases e : intKeys r with
    | none => rw [e] at h; cases h
    | some ms =>
      rw [e] at h
      cases h
      rw [List.map_cons, intKeys_eq e t, ← q.1]
      rfl
  | (.inr _, _) :: _, _, _, h, _ => by cases h
def sortKM : List V → Sto → R V := fun vs S => match vs with
  | [x] => match rdK x S with
    | some kvs => match intKeys kvs with
      | some ks => if ks.length < 64 then alloc (.lst ((upS ks).map V.int)) S else .bad
      | none => .bad
    | none => .bad
  | _ => .bad
theorem sortKM_ok : CallM X (fun xs H Q => ∃ (a : Addr) (kvs : List (Key × V)) (ks : List Int), xs = [.ref a] ∧ Rd H a (.dK kvs) ∧ kvs.map (·.1) = ks.map Sum.inl ∧ ks.length < 64 ∧ ∀ (ys : List Int) (p : Addr), ys.Perm ks → ys.Pairwise (· ≤ ·) → H p = none → Q (.ref p) (upd H p (.lst (ys.map V.int)))) sortKM := by
  intro W σ η S H xs us Q hR hx p
  unfold sortKM at p
  split at p
  · rename_i x
    obtain ⟨u, rfl, r⟩ := VsR.one hx
    split at p
    · rename_i kvs h
      obtain ⟨n, a, us, rfl, ea, ho, rfl, hu, kp, z⟩ := rdK_ok h hR r
      split at p
      · rename_i ks hk
        split at p
        · rename_i hl
          refine ⟨a, us, ks, rfl, .inl hu, intKeys_eq hk kp, hl, fun ys q hp ho hn => ?_⟩
          rw [upS_unique hp ho]
          exact p.lst hR (VsR.mapI η _) (by rw [List.length_map, (upS_perm ks).length_eq, sizeLine_eq]; omega) q hn
        · exact p.elim
      · exact p.elim
    · exact p.elim
  · exact p.elim
theorem Room.u1 {k : Nat} {A : Around} (r : Room k A) : A.units + 1 < cLine := by have := r.un; omega
/-! {k: v} -/
def eD1 (mk mv : St → Sto → R V) : St → Sto → R V := fun σ S => (mk σ S).nox.bind fun x S1 => (mv σ S1).nox.bind fun y S2 => match keyOf x with
  | some k => alloc (.dK [(k, y)]) S2
  | none => .bad
theorem Po.bindC {α β γ δ : Type} {mg : Str → Option Value} {W W' : WX} {σ σ' : St} {rel : List Addr → α → β → Prop} {rel2 : List Addr → γ → δ → Prop} {η1 : List Addr} {H1 : Hp} {r : R α} {f : α → Sto → R γ} {Q : δ → Hp → Prop} (p : Po K mg W σ rel2 η1 H1 (r.nox.bind f) Q) :
    Po K mg W' σ' rel η H r (fun u H' => ∃ η' S' v, Ext η H η' H' ∧ Rel K η' S' H' ∧ rel η' v u ∧ Po K mg W σ rel2 η1 H1 (f v S') Q) := by
  cases r with
  | ok v S' => exact fun η' H' u e' r q => ⟨η', S', v, e', r, q, p⟩
  | exc c S' => exact p.elim
  | bad => exact p.elim
theorem fe_disp1 (ha : FE X W a ma) (hb : FE X W b mb) : FE X W (.Dict [some a] [b] pos) (eD1 ma mb) :=
  ⟨PE.wk (pe_disp (pps_cons ha.run hb.run pps_nil) (by rfl) (by rfl) (fun z => by cases z) (show 1 ≤ 15 by decide)) fun σ H Q h => by
    obtain ⟨η, S, σ0, hR, hS, p⟩ := h
    intro D hD
    have hDo := hR.off hD
    refine ⟨η, S, σ0, hR.side hD _, hS, (Po.bindC (rel := VR) (η := η) (H := upd H D (.dK [])) p).imp fun u H1 ⟨η1, S1, v, e1, hR1, r1, p1⟩ => ?_⟩
    have f1 := e1.2.1 D _ upd_same hDo rfl
    refine ⟨η1, S1, σ0, hR1, hS.mono e1.1, (Po.bindC (rel := VR) (η := η1) (H := H1) p1).imp fun w H2 ⟨η2, S2, y, e2, hR2, r2, p2⟩ => ?_⟩
    have f2 := e2.2.1 D _ f1.1 f1.2 rfl
    show H2 D = some (.dK []) ∧ ∃ kvs : List (Key × V), [(u, w)] = kvs.map (fun kv => (kV kv.1, kv.2)) ∧ kvs.length ≤ 15 ∧ Q (.ref D) (upd H2 D (.dK (mergeK [] kvs)))
    refine ⟨f2.1, ?_⟩
    cases ek : keyOf v with
    | none => rw [ek] at p2; exact p2.elim
    | some k =>
      rw [ek] at p2
      have eu := keyOf_ok ek r1
      refine ⟨[(k, w)], by rw [eu]; rfl, (show 1 ≤ 15 by decide), ?_⟩
      refine p2 (η2 ++ [D]) _ (.ref D) (Ext.add (hR2.other f2.2 (fun o us' q => by rw [f2.1] at q; cases q) _ (imm_dK f2.1)) ((((Ext.side hD _).trans e1).trans e2).upd hD _) hD) ((hR2.other f2.2 (fun o us' q => by rw [f2.1] at q; cases q) _ (imm_dK f2.1)).add f2.2 (o := .dK [(k, y)]) ⟨by rw [sizeLine_eq]; simp, _, upd_same, .cons ⟨rfl, r2.mono (List.prefix_append _ _)⟩ .nil⟩ rfl) (VR.new hR2)⟩
end
end Fx
/-! Fx: dicts by tuples of whole numbers and texts: d[k], d[k] = v, k in d, len(d), {}. -/
namespace Fx
open PySem PySem.Spec L2
open PyProof.Rows hiding St
variable {K : PySem.W.Frag} {η : List Addr} {S : Sto} {H : Hp}
abbrev TK := List Key
def rdD (x : V) (S : Sto) : Option (List (TK × V)) := match x with
  | .ref n => match S[n]? with
    | some (.dT kvs) => some kvs
    | _ => none
  | _ => none
def keysOf : List V → Option TK
  | [] => some []
  | x :: r => match keyOf x with
    | some k => (keysOf r).map (k :: ·)
    | none => none
theorem keysOf_ok : ∀ {xs us : List V} {ks : TK}, keysOf xs = some ks → VsR η xs us → us = ks.map kV
  | [], _, _, h, .nil => by cases h; rfl
  | x :: r, _, _, h, .cons q t => by
    unfold keysOf at h
    cases e : keyOf x with
    | none => rw [e] at h; cases h
    | some k =>
      rw [e] at h
      cases e2 : keysOf r with
      | none => rw [e2] at h; cases h
      | some ms =>
        rw [e2] at h
        cases h
        rw [List.map_cons, keysOf_ok e2 t, keyOf_ok e q]
def keyT (y : V) (S : Sto) : Option TK := (rdT y S).bind keysOf
theorem keyT_ok {y v : V} {k : TK} (h : keyT y S = some k) (hR : Rel K η S H) (r : VR η y v) : ∃ b, v = .ref b ∧ H b = some (.tup (k.map kV)) := by
  unfold keyT at h
  cases e : rdT y S with
  | none => rw [e] at h; cases h
  | some xs =>
    rw [e] at h
    obtain ⟨a, us, rfl, hu, r2, _⟩ := rdT_ok e hR r
    rw [keysOf_ok (show keysOf xs = some k from h) r2] at hu
    exact ⟨a, rfl, hu⟩
abbrev KPT (η : List Addr) : List (TK × V) → List (TK × V) → Prop := Paired fun p q => p.1 = q.1 ∧ VR η p.2 q.2
theorem rdD_ok {x u : V} {kvs : List (TK × V)} (h : rdD x S = some kvs) (hR : Rel K η S H) (r : VR η x u) : ∃ (n : Nat) (a : Addr) (us : List (TK × V)), x = .ref n ∧ η[n]? = some a ∧ S[n]? = some (.dT kvs) ∧ u = .ref a ∧ H a = some (.dT us) ∧ KPT η kvs us ∧ kvs.length ≤ sizeLine := by
  cases x with
  | ref n =>
    obtain ⟨a, ea, rfl⟩ := r
    have h : (match S[n]? with
      | some (.dT kvs) => some kvs
      | _ => none) = some kvs := h
    cases ho : S[n]? with
    | none => rw [ho] at h; cases h
    | some o =>
      rw [ho] at h
      cases o with
      | dT xs =>
        cases h
        obtain ⟨z, us, e, p⟩ := hR.ob n a _ ea ho
        exact ⟨n, a, us, rfl, ea, ho, rfl, e, p, z⟩
      | _ => cases h
  | _ => cases h
theorem KPT.val {kvs us : List (TK × V)} (h : KPT η kvs us) (k : TK) : (∃ v u, valV kvs k = some v ∧ valV us k = some u ∧ VR η v u) ∨ (valV kvs k = none ∧ valV us k = none) := by
  induction h with
  | nil => exact .inr ⟨rfl, rfl⟩
  | @cons p q ps qs r t ih =>
    by_cases e : p.1 = k
    · exact .inl ⟨p.2, q.2, valV_pos e, valV_pos (by rw [← r.1]; exact e), r.2⟩
    · rw [valV_neg e, valV_neg (by rw [← r.1]; exact e)]
      exact ih
theorem KPT.put {kvs us : List (TK × V)} (h : KPT η kvs us) (k : TK) {v u : V} (r : VR η v u) : KPT η (putK kvs k v) (putK us k u) := by
  have any : (kvs.any fun kv => decide (kv.1 = k)) = (us.any fun kv => decide (kv.1 = k)) := by
    induction h with
    | nil => rfl
    | cons r t ih => rw [List.any_cons, List.any_cons, ih, r.1]
  unfold putK
  rw [any]
  split
  · rename_i hx
    clear any hx
    induction h with
    | nil => exact .nil
    | @cons p q ps qs r' t ih =>
      refine .cons ?_ ih
      show (if p.1 = k then (p.1, v) else p).1 = (if q.1 = k then (q.1, u) else q).1 ∧ VR η (if p.1 = k then (p.1, v) else p).2 (if q.1 = k then (q.1, u) else q).2
      by_cases e : p.1 = k
      · rw [if_pos e, if_pos (by rw [← r'.1]; exact e)]; exact ⟨r'.1, r⟩
      · rw [if_neg e, if_neg (by rw [← r'.1]; exact e)]; exact ⟨r'.1, r'.2⟩
  · exact papp h (.cons ⟨rfl, r⟩ .nil)
theorem KPT.len {kvs us : List (TK × V)} (h : KPT η kvs us) : kvs.length = us.length := Paired.length h
section
variable {X : Cx} {W : WX} {a b : Expr} {ma mb : St → Sto → R V} {pos apos cpos : Pos}
def dixT : V → V → Sto → R V := fun x y S => match rdD x S with
  | some kvs => match keyT y S with
    | some k => match valV kvs k with
      | some v => .ok v S
      | none => .bad
    | none => .bad
  | none => .bad
theorem dixT_ok : OpM X rDix dixT := by
  intro W σ η S H x y u v Q hR hx hy p
  unfold dixT at p
  cases e : rdD x S with
  | none => rw [e] at p; exact p.elim
  | some kvs =>
    obtain ⟨n, a, us, rfl, ea, ho, rfl, hu, kp, z⟩ := rdD_ok e hR hx
    rw [e] at p
    cases ek : keyT y S with
    | none => rw [ek] at p; exact p.elim
    | some k =>
      obtain ⟨b, rfl, hb⟩ := keyT_ok ek hR hy
      rw [ek] at p
      dsimp only at p
      rcases kp.val k with ⟨v, w, h1, h2, r⟩ | ⟨h1, h2⟩
      · rw [h1] at p
        exact ⟨a, w, rfl, h2 ▸ DGet.t hu hb, p.now hR r⟩
      · rw [h1] at p; exact p.elim
theorem fe_dixT (hu : X.A.units + 1 < cLine) (ha : FE X W a ma) (hb : FE X W b mb) (hs : NoSl b := by intro _ _; rfl) : FE X W (.Subscript a b pos) (eO dixT ma mb) :=
  ⟨PE.wk (pe_dget hu ha.run hb.run hs) fun σ H Q h => lf_bin dixT_ok h⟩
def dinT (neg : Bool) : V → V → Sto → R V := fun y x S => match rdD x S with
  | some kvs => match keyT y S with
    | some k => .ok (.bl (if neg = true then !(valV kvs k).isSome else (valV kvs k).isSome)) S
    | none => .bad
  | none => .bad
theorem dinT_ok {neg : Bool} : OpM X (rDin neg) (dinT neg) := by
  intro W σ η S H y x v u Q hR hy hx p
  unfold dinT at p
  cases e : rdD x S with
  | none => rw [e] at p; exact p.elim
  | some kvs =>
    obtain ⟨n, a, us, rfl, ea, ho, rfl, hu, kp, z⟩ := rdD_ok e hR hx
    rw [e] at p
    cases ek : keyT y S with
    | none => rw [ek] at p; exact p.elim
    | some k =>
      obtain ⟨b, rfl, hb⟩ := keyT_ok ek hR hy
      rw [ek] at p
      refine ⟨a, _, rfl, DGet.t hu hb, p.now hR ?_⟩
      rcases kp.val k with ⟨v, w, h1, h2, r⟩ | ⟨h1, h2⟩
      · rw [h1, h2]; rfl
      · rw [h1, h2]; rfl
theorem fe_dinT (hu : X.A.units + 1 < cLine) (ha : FE X W a ma) (hb : FE X W b mb) (hk : behindInMarks .In b = false := by rfl) : FE X W (.Compare a [.In] [b] pos) (eO (dinT false) ma mb) :=
  ⟨PE.wk (pe_cmp (pc_din hu ha.run hb.run) hk) fun σ H Q h => lf_bin (dinT_ok (neg := false)) h⟩
theorem fe_dninT (hu : X.A.units + 1 < cLine) (ha : FE X W a ma) (hb : FE X W b mb) (hk : behindInMarks .NotIn b = false := by rfl) : FE X W (.Compare a [.NotIn] [b] pos) (eO (dinT true) ma mb) :=
  ⟨PE.wk (pe_cmp (pc_dnotin hu ha.run hb.run) hk) fun σ H Q h => lf_bin (dinT_ok (neg := true)) h⟩
theorem ft_dinT (hu : X.A.units + 1 < cLine) (ha : FE X W a ma) (hb : FE X W b mb) (hk : behindInMarks .In b = false := by rfl) : FT X W (.Compare a [.In] [b] pos) (tV (eO (dinT false) ma mb)) :=
  ⟨PT.wk (pt_cmp (pc_din hu ha.run hb.run) hk) fun σ H Q h => tV_of (fun σ H Q h => lf_bin (dinT_ok (neg := false)) h) h⟩
theorem ft_dninT (hu : X.A.units + 1 < cLine) (ha : FE X W a ma) (hb : FE X W b mb) (hk : behindInMarks .NotIn b = false := by rfl) : FT X W (.Compare a [.NotIn] [b] pos) (tV (eO (dinT true) ma mb)) :=
  ⟨PT.wk (pt_cmp (pc_dnotin hu ha.run hb.run) hk) fun σ H Q h => tV_of (fun σ H Q h => lf_bin (dinT_ok (neg := true)) h) h⟩
def setT : V → V → V → Sto → R Unit := fun o i v S => match o with
  | .ref n => match rdD (.ref n) S with
    | some kvs => match keyT i S with
      | some k => if kvs.length < lim then .ok () (S.set n (.dT (putK kvs k v))) else .bad
      | none => .bad
    | none => .bad
  | _ => .bad
theorem setT_ok : SetM X rSetD setT := by
  intro W σ η S H o i v uo ui uv Q hR ho hi hv p
  unfold setT at p
  split at p
  · rename_i n
    split at p
    · rename_i kvs e
      obtain ⟨n', a, us, e', ea, hS, rfl, hu, kp, z⟩ := rdD_ok e hR ho
      cases e'
      split at p
      · rename_i k ek
        obtain ⟨b, rfl, hb⟩ := keyT_ok ek hR hi
        split at p
        · rename_i hl
          have hl' : kvs.length < sizeLine := hl
          have hz : (putK kvs k v).length ≤ sizeLine := by have := length_putK kvs k v; omega
          refine ⟨a, _, rfl, DPut.t hu hb (by rw [← kp.len]; exact hl'), ?_⟩
          exact p η _ () (Ext.set hR ea hS rfl) (hR.set ea hS rfl ⟨hz, _, upd_same, kp.put k hv⟩ rfl) trivial
        · exact p.elim
      · exact p.elim
    · exact p.elim
  · exact p.elim
def lenDT : List V → Sto → R V := fun vs S => match vs with
  | [x] => match rdD x S with
    | some kvs => .ok (.int kvs.length) S
    | none => .bad
  | _ => .bad
def eDnewT : St → Sto → R V := fun _ S => alloc (.dT []) S
theorem fe_dnewT : FE X W (.Dict [] [] pos) eDnewT := ⟨PE.wk pe_dnewT fun σ H Q h => by
  obtain ⟨η, S, σ0, hR, hS, p⟩ := h
  exact fun q hq => p (η ++ [q]) _ _ (Ext.new hR hq _) (hR.new hq (o := .dT []) ⟨Nat.zero_le _, [], upd_same, .nil⟩ rfl) (VR.new hR)⟩
end
end Fx
/-! Fx: x in xs and xs.index(x) by data; comprehensions over a dict's keys. -/
namespace Fx
open PySem PySem.Spec L2
open PyProof.Rows hiding St
variable {K : PySem.W.Frag} {η : List Addr} {S : Sto} {H : Hp}
theorem Room.u65 {k : Nat} {A : Around} (r : Room k A) : A.units + 65 < cLine := by have := r.un; omega
section
variable {X : Cx} {W : WX} {a b : Expr} {ma mb : St → Sto → R V} {pos apos cpos : Pos}
def inD (neg : Bool) (x y : V) (S : Sto) : Option Bool := match toD 5 S x, toD 5 S y with
  | some d, some (.list ds) => if SeqAt.shaped d = true ∧ SeqAt.shaped (.list ds) = true then some (if neg = true then !ds.any fun z => PyData.eqv z d else ds.any fun z => PyData.eqv z d) else none
  | _, _ => none
def inDM (neg : Bool) : V → V → Sto → R V := fun x y S => match inD neg x y S with
  | some b => .ok (.bl b) S
  | none => .bad
theorem inDM_in : OpM X (rInD X.K) (inDM false) := by
  intro W σ η S H x y u v Q hR hx hy p
  unfold inDM inD at p
  split at p
  · rename_i b hb
    split at hb
    · rename_i d ds hd hds
      split at hb
      · rename_i hs
        cases hb
        exact ⟨d, ds, toD_ok hR 5 x u d hd hx, toD_ok hR 5 y v _ hds hy, hs.1, hs.2, p.now hR rfl⟩
      · cases hb
    · cases hb
  · exact p.elim
theorem inDM_notIn : OpM X (rNotInD X.K) (inDM true) := by
  intro W σ η S H x y u v Q hR hx hy p
  unfold inDM inD at p
  split at p
  · rename_i b hb
    split at hb
    · rename_i d ds hd hds
      split at hb
      · rename_i hs
        cases hb
        exact ⟨d, ds, toD_ok hR 5 x u d hd hx, toD_ok hR 5 y v _ hds hy, hs.1, hs.2, p.now hR rfl⟩
      · cases hb
    · cases hb
  · exact p.elim
theorem fe_inD (hu : X.A.units + 65 < cLine) (ha : FE X W a ma) (hb : FE X W b mb) (hk : behindInMarks .In b = false := by rfl) : FE X W (.Compare a [.In] [b] pos) (eO (inDM false) ma mb) := fe_cmp (op_inD hu) inDM_in ha hb hk
theorem fe_ninD (hu : X.A.units + 65 < cLine) (ha : FE X W a ma) (hb : FE X W b mb) (hk : behindInMarks .NotIn b = false := by rfl) : FE X W (.Compare a [.NotIn] [b] pos) (eO (inDM true) ma mb) := fe_cmp (op_notInD hu) inDM_notIn ha hb hk
theorem ft_inD (hu : X.A.units + 65 < cLine) (ha : FE X W a ma) (hb : FE X W b mb) (hk : behindInMarks .In b = false := by rfl) : FT X W (.Compare a [.In] [b] pos) (tV (eO (inDM false) ma mb)) := ft_cmp (op_inD hu) inDM_in ha hb hk
theorem ft_ninD (hu : X.A.units + 65 < cLine) (ha : FE X W a ma) (hb : FE X W b mb) (hk : behindInMarks .NotIn b = false := by rfl) : FT X W (.Compare a [.NotIn] [b] pos) (tV (eO (inDM true) ma mb)) := ft_cmp (op_notInD hu) inDM_notIn ha hb hk
/-! xs.index(x) -/
def indexDM : V → List V → Sto → R V := fun x vs S => match vs with
  | [y] => match toD 5 S x, toD 5 S y with
    | some (.list ds), some d => if SeqAt.shaped (.list ds) = true ∧ SeqAt.shaped d = true then (match ds.findIdx? fun z => PyData.eqv z d with
      | some j => .ok (.int j) S
      | none => .bad) else .bad
    | _, _ => .bad
  | _ => .bad
theorem indexDM_ok : MtM X (rIndexD X.K) indexDM := by
  intro W σ η S H x u xs us Q hR rx rs p
  unfold indexDM at p
  split at p
  · rename_i y
    obtain ⟨v, rfl, ry⟩ := VsR.one rs
    split at p
    · rename_i ds d hds hd
      split at p
      · rename_i hs
        split at p
        · rename_i j hj
          obtain ⟨hjl, h1, h2⟩ := List.findIdx?_eq_some_iff_getElem.mp hj
          have hx := toD_ok hR 5 x u _ hds rx
          have hu : ∃ a, u = V.ref a := by
            cases hx with
            | lst => exact ⟨_, rfl⟩
          obtain ⟨a, rfl⟩ := hu
          refine ⟨a, v, d, ds, j, ds[j], rfl, rfl, hx, toD_ok hR 5 y v d hd ry, hs.1, hs.2, List.getElem?_eq_getElem hjl, h1, fun m z' hm hz => ?_, p.now hR rfl⟩
          obtain ⟨hml, rfl⟩ := List.getElem?_eq_some_iff.mp hz
          have := h2 m hm
          simpa using this
        · exact p.elim
      · exact p.elim
    · exact p.elim
  · exact p.elim
end
end Fx
/-! Fx: a comprehension over the keys of a dict by tuples (the dict is locked the while). -/
namespace Fx
open PySem PySem.Spec L2
open PyProof.Rows hiding St
variable {K : PySem.W.Frag} {η : List Addr} {S : Sto} {H : Hp}
/-- JR, told from a heap on -/
structure JX (K : PySem.W.Frag) (η : List Addr) (H0 : Hp) (a : AI) (J : It) : Prop where
  len : a.1.length ≤ sizeLine
  go : ∀ η' S H i it, Ext η H0 η' H → Rel K η' S H → a.2 S = true → a.1[i]? = some it → J.go i H ∧ ∀ x H', J.yld i H x H' → YldR η' it H x H'
  stop : ∀ η' S H, Ext η H0 η' H → Rel K η' S H → a.2 S = true → J.stop a.1.length H
section
variable {X : Cx} {W : WX} {e : Expr} {m : St → Sto → R V} {pos : Pos}
theorem lf_lcX {tg : Itm → St → Sto → R St} {tt : St → Sto → R Bool} {te : St → Sto → R V} {own : List Nat} {g : TG} {is : List Nat}
    (hg : ∀ η S H σ0 σ it x H' Q, Rel X.K η S H → SR η σ0 σ → YldR η it H x H' → Po X.K X.mg W0 σ SR η H (tg it σ0 S) Q → g x σ H' fun σ2 H2 => (∃ us, σ2 = gTs is us σ) ∧ Q σ2 H2)
    (hm : ∀ x σ H Q Q', (∀ a b, Q a b → Q' a b) → g x σ H Q → g x σ H Q') (his : ∀ i ∈ is, i ∈ own) {σ σ0 : St} {Q : VK} {η1 : List Addr} {S1 : Sto} {H1 : Hp} {items : List Itm} {chk : Sto → Bool} {J : It} (hR1 : Rel X.K η1 S1 H1) (hS : SR η1 σ0 σ) (j : JX X.K η1 H1 (items, chk) J)
    (p1 : Po X.K X.mg W σ VR η1 H1 ((compM chk tg tt te items (wipe σ0 own) S1).bind fun ys S2 => alloc (.lst ys) S2) Q) (wi : TI) (hi : ∀ R : It → Hp → Prop, R J H1 → wi σ H1 R) : tLc wi g (lfT X W0 tt) (lfE X W0 te) own σ H1 Q := by
  refine hi _ ?_
  intro D hD
  have hSw : ∀ η2, η1 <+: η2 → SR η2 (wipe σ0 own) (wipe σ own) := fun η2 h2 => (hS.mono h2).wipe own
  refine ⟨fun i m H => m = items.length - i ∧ i ≤ items.length ∧ ∃ η S acc us, Ext η1 H1 η H ∧ Rel X.K η S H ∧ H D = some (.lst us) ∧ VsR η acc us ∧ D ∉ η.drop 1 ∧ acc.length ≤ i ∧
    Po X.K X.mg W σ VR η1 H1 ((compM chk tg tt te (items.drop i) (wipe σ0 own) S).bind fun ys S2 => alloc (.lst (acc ++ ys)) S2) Q, ?_, ?_⟩
  · exact ⟨items.length, by simp, Nat.zero_le _, η1, S1, [], [], Ext.side hD _, hR1.side hD _, upd_same, .nil, hR1.off hD, Nat.le_refl _, p1⟩
  · rintro i mm H2 ⟨rfl, hil, η2, S2, acc, us, e2, hR2, hDu, hacc, hDo, hal, p2⟩
    by_cases hlt : i < items.length
    · have ed : items.drop i = items[i] :: items.drop (i + 1) := (List.drop_eq_getElem_cons hlt)
      rw [ed] at p2
      unfold compM at p2
      by_cases hk : chk S2 = true
      · rw [if_pos hk] at p2
        obtain ⟨hgo, hy⟩ := j.go η2 S2 H2 i items[i] e2 hR2 hk (List.getElem?_eq_getElem hlt)
        refine .inr ⟨hgo, fun H' => ∃ η S acc us, Ext η1 H1 η H' ∧ Rel X.K η S H' ∧ H' D = some (.lst us) ∧ VsR η acc us ∧ D ∉ η.drop 1 ∧ acc.length ≤ i + 1 ∧
          Po X.K X.mg W σ VR η1 H1 ((compM chk tg tt te (items.drop (i + 1)) (wipe σ0 own) S).bind fun ys S2 => alloc (.lst (acc ++ ys)) S2) Q, fun H' q => ⟨items.length - (i + 1), by omega, rfl, hlt, q⟩, fun x H' y => ?_⟩
        have as : ∀ {α β γ : Type} (r : R α) (f : α → Sto → R β) (k : β → Sto → R γ), (r.bind f).bind k = r.bind fun a S => (f a S).bind k := fun r f k => by cases r <;> rfl
        rw [as] at p2
        refine hm _ _ _ _ _ (fun σ3 H3 z => ?_) (hg η2 S2 H2 (wipe σ0 own) (wipe σ own) items[i] x H' _ hR2 (hSw η2 e2.1) (hy x H' y) (Po.bindB (rel := SR) (η := η2) (H := H2) p2))
        obtain ⟨⟨us3, rfl⟩, η3, S3, σ03, e3, hR3, hS3, p3⟩ := z
        refine ⟨by rw [wipe_sets his, wipe_wipe], ?_⟩
        rw [as] at p3
        refine ⟨η3, S3, σ03, hR3, hS3, (Po.bindB (rel := fun _ a b => b = a) (η := η3) (H := H3) p3).imp fun b H4 ⟨η4, S4, b', e4, hR4, rb, p4⟩ => ?_⟩
        subst rb
        have e24 := e3.trans e4
        obtain ⟨hD4, hDo4⟩ := e24.2.1 D _ hDu hDo rfl
        cases b with
        | false =>
          rw [if_neg Bool.false_ne_true] at p4 ⊢
          exact ⟨η4, S4, acc, us, e2.trans e24, hR4, hD4, hacc.mono e24.1, hDo4, by omega, p4⟩
        | true =>
          rw [if_pos rfl] at p4 ⊢
          rw [as] at p4
          refine ⟨η4, S4, σ03, hR4, hS3.mono e4.1, (Po.bindB (rel := VR) (η := η4) (H := H4) p4).imp fun v H5 ⟨η5, S5, v', e5, hR5, rv, p5⟩ => ?_⟩
          obtain ⟨hD5, hDo5⟩ := e5.2.1 D _ hD4 hDo4 rfl
          have hl := hacc.length
          have hjl := j.len
          refine ⟨us, hD5, by
            have : items.length ≤ sizeLine := hjl
            omega, η5, S5, acc ++ [v'], us ++ [v], ((e2.trans e24).trans e5).upd hD _, hR5.other hDo5 (fun o us' q => by rw [hD5] at q; cases q) _ (imm_lst hD5), upd_same, papp (hacc.mono (e24.1.trans e5.1)) (.cons rv .nil), hDo5, by simp; omega, ?_⟩
          rw [as] at p5
          have eq : (fun a S => ((R.ok (v' :: a) S).bind fun ys S2 => alloc (.lst (acc ++ ys)) S2)) = fun ys S2 => alloc (.lst (acc ++ [v'] ++ ys)) S2 := by
            funext a S
            show alloc (.lst (acc ++ v' :: a)) S = _
            rw [List.append_assoc]; rfl
          rw [← eq]
          exact p5
      · rw [if_neg hk] at p2; exact p2.elim
    · have ei : i = items.length := by omega
      subst ei
      rw [List.drop_length] at p2
      unfold compM at p2
      by_cases hk : chk S2 = true
      · rw [if_pos hk] at p2
        refine .inl ⟨j.stop η2 S2 H2 e2 hR2 hk, ?_⟩
        have hjl := j.len
        have p2 : Po X.K X.mg W σ VR η1 H1 (alloc (.lst (acc ++ [])) S2) Q := p2
        rw [List.append_nil] at p2
        exact p2 (η2 ++ [D]) H2 (.ref D) (Ext.add hR2 e2 hD) (hR2.add hDo (o := .lst acc) ⟨Nat.le_trans hal hjl, us, hDu, hacc.mono (List.prefix_append _ _)⟩ rfl) (VR.new hR2)
      · rw [if_neg hk] at p2; exact p2.elim

theorem lenDT_ok : CallM X rLenT lenDT := by
  intro W σ η S H xs us Q hR hx p
  unfold lenDT at p
  split at p
  · rename_i x
    obtain ⟨u, rfl, r⟩ := VsR.one hx
    split at p
    · rename_i kvs h
      obtain ⟨n, a, us, rfl, ea, ho, rfl, hu, kp, z⟩ := rdD_ok h hR r
      exact ⟨a, us, rfl, hu, p.now hR (show V.int _ = V.int _ by rw [kp.len])⟩
    · exact p.elim
  · exact p.elim
/-! the walk -/
def iKy (j : Nat) : St → Sto → R AI := fun σ S => match σ[j]? with
  | some (some (.ref n)) => match S[n]? with
    | some (.fD kvs) => .ok (kvs.map fun p => .key p.1, fun S => S[n]? == some (.fD kvs)) S
    | _ => .bad
  | _ => .bad
def unlk (n : Nat) (kvs : List (TK × V)) : V → Sto → R V := fun v S => if S[n]? = some (.fD kvs) then .ok v (S.set n (.dT kvs)) else .bad
def eCompK (j : Nat) (tg : Itm → St → Sto → R St) (tt : St → Sto → R Bool) (te : St → Sto → R V) (own : List Nat) : St → Sto → R V := fun σ S => match σ[j]? with
  | some (some (.ref n)) => match S[n]? with
    | some (.dT kvs) => (eComp (iKy j) tg tt te own σ (S.set n (.fD kvs))).nox.bind (unlk n kvs)
    | _ => .bad
  | _ => .bad
theorem fe_lcK {elt tg : Expr} {ifs : List Expr} {scope : Scope} {own : List (Str × Nat)} {t : Itm → St → Sto → R St} {g : TG} {is : List Nat} {tt : St → Sto → R Bool} {te : St → Sto → R V} {j : Nat} {x : Str} {vp : Pos} (hc : X.calm = true) (hN : X.N.Nodup) (hn : X.N[j]? = some x) (hvs : Vis X.env.scope x) (ok : BlkOk X.N X.env.scope scope own)
    (hg : ∀ (s : Shared) (H : Hp) (C : Addr) (cl : List (Str × Addr)) (fp : List Addr), FGI (X.blk s H scope (compEnvC scope cl C X.env) fp) W0 tg t g is) (ht : ∀ (s : Shared) (H : Hp) (C : Addr) (cl : List (Str × Addr)) (fp : List Addr), FTs (X.blk s H scope (compEnvC scope cl C X.env) fp) W0 ifs tt)
    (he : ∀ (s : Shared) (H : Hp) (C : Addr) (cl : List (Str × Addr)) (fp : List Addr), FE (X.blk s H scope (compEnvC scope cl C X.env) fp) W0 elt te) (his : ∀ i ∈ is, i ∈ own.map (·.2) := by decide) (hs : ∀ z, foldedSetIterable (.Name x vp) X.env z = pure z := by intro _; rfl) (hd : (x == ("__debug__" : Str)) = false := by decide) (hcd : (x == ("__classdict__" : Str)) = false := by decide) :
    FE X W (.ListComp elt [⟨tg, .Name x vp, ifs, 0⟩] scope pos) (eCompK j t tt te (own.map (·.2))) := by
  have sh : Shared := {}
  refine ⟨PE.wk (pe_lock (pe_lc (te := lfE X W0 te) (tt := lfT X W0 tt) hc hN (pi_keys (pe_var hn hvs hd hcd)) ok (fun s H C cl fp => (hg s H C cl fp).pg) (fun s H C cl fp => (ht s H C cl fp).run) (fun s H C cl fp => (he s H C cl fp).run) hs)) fun σ H Q h => ?_⟩
  obtain ⟨η, S, σ0, hR, hS, p⟩ := h
  unfold eCompK at p
  split at p
  · rename_i n hnj
    split at p
    · rename_i kvs hk
      obtain ⟨u, hu, ru⟩ := pget hS hnj
      have ru : ∃ w, u = some w ∧ VR η (.ref n) w := by
        cases u with
        | none => exact (ru : False).elim
        | some w => exact ⟨w, rfl, ru⟩
      obtain ⟨w, rfl, ru⟩ := ru
      obtain ⟨a, ea, rfl⟩ := ru
      obtain ⟨z, us, hH, pr⟩ := hR.ob n a _ ea hk
      refine ⟨a, .dT us, hH, trivial, fun od => ?_⟩
      have hnl : n < S.length := (List.getElem?_eq_some_iff.mp hk).1
      have hRl : Rel X.K η (S.set n (.fD kvs)) (upd H a (.frz od (.dT us))) := hR.set ea hk rfl ⟨z, us, ⟨od, upd_same⟩, pr⟩ rfl
      have hfz : ∀ η' H', Ext η (upd H a (.frz od (.dT us))) η' H' → H' a = some (.frz od (.dT us)) := fun η' H' e => e.2.2 a od _ upd_same
      have back : ∀ η' H', Ext η (upd H a (.frz od (.dT us))) η' H' → Ext η H η' (upd H' a (.dT us)) := fun η' H' e => by
        refine ⟨e.1, fun b o h nb t => ?_, fun b o u h => ?_⟩
        · have hb : b ≠ a := fun z => nb (by rw [z]; exact mem_drop1.mpr ⟨n, hR.pos hk rfl, ea⟩)
          have := e.2.1 b o (by rw [upd_ne hb]; exact h) nb t
          exact ⟨by rw [upd_ne hb]; exact this.1, this.2⟩
        · have hb : b ≠ a := fun z => by rw [z, hH] at h; cases h
          rw [upd_ne hb]
          exact e.2.2 b o u (by rw [upd_ne hb]; exact h)
      have ek : (S.set n (.fD kvs))[n]? = some (.fD kvs) := List.getElem?_set_self hnl
      have q : Po X.K X.mg W0 σ VR η (upd H a (.frz od (.dT us))) ((compM (fun S => S[n]? == some (.fD kvs)) t tt te (kvs.map fun p => .key p.1) (wipe σ0 (own.map (·.2))) (S.set n (.fD kvs))).bind fun ys S2 => alloc (.lst ys) S2) fun v H' => H' a = some (.frz od (.dT us)) ∧ Q v (upd H' a (.dT us)) := by
        have ee : eComp (iKy j) t tt te (own.map (·.2)) σ0 (S.set n (.fD kvs)) = (compM (fun S => S[n]? == some (.fD kvs)) t tt te (kvs.map fun p => .key p.1) (wipe σ0 (own.map (·.2))) (S.set n (.fD kvs))).bind fun ys S2 => alloc (.lst ys) S2 := by
          unfold eComp iKy
          rw [hnj]
          dsimp only
          rw [ek]
          rfl
        rw [← ee]
        cases hr : eComp (iKy j) t tt te (own.map (·.2)) σ0 (S.set n (.fD kvs)) with
        | bad => rw [hr] at p; exact p.elim
        | exc c S' => rw [hr] at p; exact p.elim
        | ok v S' =>
          rw [hr] at p
          have p : Po X.K X.mg W σ VR η H (unlk n kvs v S') Q := p
          intro η' H' u e1 hR' rv
          refine ⟨hfz η' H' e1, ?_⟩
          unfold unlk at p
          by_cases hkk : S'[n]? = some (.fD kvs)
          · rw [if_pos hkk] at p
            have ea' : η'[n]? = some a := pre_get e1.1 ea
            refine p η' _ u (back η' H' e1) (hR'.set ea' hkk rfl ?_ rfl) rv
            exact ⟨z, us, upd_same, Paired.mono (fun _ _ q => ⟨q.1, q.2.mono e1.1⟩) pr⟩
          · rw [if_neg hkk] at p; exact p.elim
      refine lf_lcX (J := Itkt a od us) (hg sh (fun _ => none) 0 [] []).run (hg sh (fun _ => none) 0 [] []).mono his hRl hS ?_ q _ fun R r => ?_
      · have hl : kvs.length = us.length := Paired.length pr
        refine ⟨by simpa using z, fun η' S' H' i it e1 hR' hc' hi => ?_, fun η' S' H' e1 hR' hc' => ?_⟩
        · have hi : (kvs.map fun p => Itm.key p.1)[i]? = some it := hi
          rw [List.getElem?_map] at hi
          cases hx : kvs[i]? with
          | none => rw [hx] at hi; cases hi
          | some kv =>
            rw [hx] at hi
            cases hi
            obtain ⟨w, hw, rw'⟩ := pget pr hx
            refine ⟨⟨hfz η' H' e1, by rw [← hl]; exact (List.getElem?_eq_some_iff.mp hx).1⟩, fun y H2 hy => ?_⟩
            obtain ⟨rfl, k, v, q, h1, rfl, h3⟩ := hy
            rw [hw] at h1
            cases h1
            exact ⟨rfl, q, rfl, by rw [rw'.1]; exact h3⟩
        · exact ⟨hfz η' H' e1, by rw [← hl]; simp⟩
      · exact ⟨.ref a, hu, a, od, rfl, .inr ⟨us, upd_same, r⟩⟩
    · exact p.elim
  · exact p.elim
end
end Fx
/-! Fx: zip of three lists. -/
namespace Z3
open PySem PySem.Spec PyProof.Rows
abbrev IsTri (h : Heap) (T : Addr) (a b c : Value) : Prop := h.get? T = some { cls := .type "tuple", data := .seq #[a, b, c] }
theorem typeCall_3 (a b c : Value) : checkTypeCall "zip" ⟨[a, b, c], []⟩ = pure () := by kernel_rfl
theorem newCall_3 (a b c : Value) : checkBuiltinCall "zip.__new__" ⟨[.type "zip", a, b, c], []⟩ = pure () := by kernel_rfl
theorem args_init_4 (a b c d : Value) : argsOk "object.__init__" ⟨[a, b, c, d], []⟩ := by
  unfold argsOk; rw [signature?_of (id := "object.__init__") (n := ['_', '_', 't', 'i', 'n', 'i', '_', '_']) (o := ['t', 'c', 'e', 'j', 'b', 'o']) (by kernel_rfl) F.owner_object]; kernel_rfl
structure Apart (z TI TO i1 i2 i3 l1 l2 l3 : Addr) : Prop where
  TIz : TI ≠ z
  TOz : TO ≠ z
  i1z : i1 ≠ z
  i2z : i2 ≠ z
  i3z : i3 ≠ z
  TITO : TI ≠ TO
  TIi1 : TI ≠ i1
  TIi2 : TI ≠ i2
  TIi3 : TI ≠ i3
  TOi1 : TO ≠ i1
  TOi2 : TO ≠ i2
  TOi3 : TO ≠ i3
  i12 : i1 ≠ i2
  i13 : i1 ≠ i3
  i23 : i2 ≠ i3
  l1z : l1 ≠ z
  l1TO : l1 ≠ TO
  l1i1 : l1 ≠ i1
  l1i2 : l1 ≠ i2
  l1i3 : l1 ≠ i3
  l2z : l2 ≠ z
  l2TO : l2 ≠ TO
  l2i1 : l2 ≠ i1
  l2i2 : l2 ≠ i2
  l2i3 : l2 ≠ i3
  l3z : l3 ≠ z
  l3TO : l3 ≠ TO
  l3i1 : l3 ≠ i1
  l3i2 : l3 ≠ i2
  l3i3 : l3 ≠ i3
theorem nn {a b : Nat} (h : a < b ∨ b < a) : a ≠ b := by omega
theorem apart_new (I l1 l2 l3 : Nat) (h1 : l1 < I) (h2 : l2 < I) (h3 : l3 < I) : Apart (I + 5) (I + 3) (I + 4) I (I + 1) (I + 2) l1 l2 l3 := by
  constructor <;> (refine nn ?_; omega)
section
variable {prog : Program} {w : World} {A : Around} {E : Value → Shared → Prop} {s : Shared}
theorem upd_tri {T : Addr} {a b c x : Value} {k : Nat} {Q : Unit → Shared → Prop} (hT : IsTri s.heap T a b c)
    (h : ∀ h', h'.get? T = some { cls := .type "tuple", data := .seq ((#[a, b, c] : Array Value).setIfInBounds k x) } → Heap.SameBut T s.heap h' → Q () { s with heap := h' }) :
    wpAny (model prog w) A (updateSeq T (·.setIfInBounds k x)) Q E s := by
  refine wpAny_updateSeq hT rfl (h _ ?_ (Heap.SameBut.update ..))
  rw [Heap.get?_update_self _ hT rfl]
  simp [Obj.mapSeq]
theorem next_item {z TI TO i1 i2 i3 l1 l2 l3 : Addr} {k : Nat} {xs ys zs : Array Value} {x y u a b c : Value} {Q : Value → Shared → Prop} (D : Apart z TI TO i1 i2 i3 l1 l2 l3)
    (hz : IsZip s.heap z TI TO .none) (hTI : IsTri s.heap TI (.ref i1) (.ref i2) (.ref i3)) (hTO : IsTri s.heap TO a b c)
    (h1 : s.heap.IsListIter i1 l1 k) (h2 : s.heap.IsListIter i2 l2 k) (h3 : s.heap.IsListIter i3 l3 k) (hl1 : s.heap.IsList l1 xs) (hl2 : s.heap.IsList l2 ys) (hl3 : s.heap.IsList l3 zs) (hx : xs[k]? = some x) (hy : ys[k]? = some y) (hu : zs[k]? = some u)
    (hQ : ∀ h', IsZip h' z TI TO (rawInt s.heap.objs.size) → IsTri h' TO x y u → h'.IsListIter i1 l1 (k + 1) → h'.IsListIter i2 l2 (k + 1) → h'.IsListIter i3 l3 (k + 1) → IsTri h' s.heap.objs.size x y u → h'.objs.size = s.heap.objs.size + 1 →
      (∀ c o, c ≠ z → c ≠ TO → c ≠ i1 → c ≠ i2 → c ≠ i3 → s.heap.get? c = some o → h'.get? c = some o) → Q (.ref s.heap.objs.size) { s with heap := h' }) :
    wpAny (model prog w) A (Builtin.«zip.__next__» ⟨[.ref z], []⟩) (fun fin s' => ∃ v, fin = .done (.ret v) ∧ Q v s') E s := by
  show wpAny _ _ (field (.ref z) 2 >>= _) _ _ _
  refine wpAny_bind (wpAny_field hz rfl (x := .bool false) rfl ?_)
  show wpAny _ _ (field (.ref z) 3 >>= _) _ _ _
  refine wpAny_bind (wpAny_field hz rfl (x := .ref TI) rfl ?_)
  refine wpAny_bind (wpAny_seqItems hTI rfl ?_)
  show wpAny _ _ (Builtin.SmallTypes.ownedTupleIsFree (.ref z) >>= _) _ _ _
  refine wpAny_bind ?_
  unfold Builtin.SmallTypes.ownedTupleIsFree
  refine wpAny_bind (wpAny_field hz rfl (x := .none) rfl (wpAny_pure ?_))
  simp only [if_true]
  refine wpAny_bind (wpAny_rule ?_)
  refine wpAny_bind (wpAny_field hz rfl (x := .ref TO) rfl ?_)
  refine wpAny_bind (wpAny_setField_rec hz (by simp) fun h₁ hz₁ hs₁ => ?_)
  replace hz₁ : IsZip h₁ z TI TO .ellipsis := hz₁
  refine wpAny_bind ?_
  simp only [List.zipIdx_cons, List.zipIdx_nil, List.forIn_cons, List.forIn_nil]

  refine wpAny_bind (wpAny_bind (wpAny_onRaise ?_))
  show wpAny _ _ (Builtin.SmallTypes.nextOf (.ref i1) >>= _) _ _ _
  refine wpAny_bind (wpAny_nextOf_list_item (h1.extBut hs₁.extBut D.i1z) (hl1.extBut hs₁.extBut D.l1z) hx fun h₂ h1₂ hs₂ => wpAny_pure ?_)
  have hTO₂ : IsTri h₂ TO a b c := hs₂.extBut _ _ D.TOi1 (hs₁.extBut _ _ D.TOz hTO)
  refine wpAny_bind (wpAny_seqItems hTO₂ rfl ?_)
  refine wpAny_bind (upd_tri hTO₂ fun h₃ hTO₃ hs₃ => ?_)
  replace hTO₃ : IsTri h₃ TO x b c := hTO₃
  refine wpAny_bind (wpAny_letGo (wpAny_pure ?_))

  refine wpAny_bind (wpAny_bind (wpAny_onRaise ?_))
  show wpAny _ _ (Builtin.SmallTypes.nextOf (.ref i2) >>= _) _ _ _
  refine wpAny_bind (wpAny_nextOf_list_item (((h2.extBut hs₁.extBut D.i2z).extBut hs₂.extBut D.i12.symm).extBut hs₃.extBut D.TOi2.symm)
    (((hl2.extBut hs₁.extBut D.l2z).extBut hs₂.extBut D.l2i1).extBut hs₃.extBut D.l2TO) hy fun h₄ h2₄ hs₄ => wpAny_pure ?_)
  have hTO₄ : IsTri h₄ TO x b c := hs₄.extBut _ _ D.TOi2 hTO₃
  refine wpAny_bind (wpAny_seqItems hTO₄ rfl ?_)
  refine wpAny_bind (upd_tri hTO₄ fun h₅ hTO₅ hs₅ => ?_)
  replace hTO₅ : IsTri h₅ TO x y c := hTO₅
  refine wpAny_bind (wpAny_letGo (wpAny_pure ?_))

  refine wpAny_bind (wpAny_bind (wpAny_onRaise ?_))
  show wpAny _ _ (Builtin.SmallTypes.nextOf (.ref i3) >>= _) _ _ _
  refine wpAny_bind (wpAny_nextOf_list_item (((((h3.extBut hs₁.extBut D.i3z).extBut hs₂.extBut D.i13.symm).extBut hs₃.extBut D.TOi3.symm).extBut hs₄.extBut D.i23.symm).extBut hs₅.extBut D.TOi3.symm)
    (((((hl3.extBut hs₁.extBut D.l3z).extBut hs₂.extBut D.l3i1).extBut hs₃.extBut D.l3TO).extBut hs₄.extBut D.l3i2).extBut hs₅.extBut D.l3TO) hu fun h₆ h3₆ hs₆ => wpAny_pure ?_)
  have hTO₆ : IsTri h₆ TO x y c := hs₆.extBut _ _ D.TOi3 hTO₅
  refine wpAny_bind (wpAny_seqItems hTO₆ rfl ?_)
  refine wpAny_bind (upd_tri hTO₆ fun h₇ hTO₇ hs₇ => ?_)
  replace hTO₇ : IsTri h₇ TO x y u := hTO₇
  refine wpAny_bind (wpAny_letGo (wpAny_pure (wpAny_pure ?_)))

  refine wpAny_bind (wpAny_seqItems hTO₇ rfl ?_)
  refine wpAny_bind (wpAny_newTuple ?_)
  have hsz : h₇.objs.size = s.heap.objs.size := by rw [hs₇.1, hs₆.1, hs₅.1, hs₄.1, hs₃.1, hs₂.1, hs₁.1]
  have hz₇ : IsZip h₇ z TI TO .ellipsis := hs₇.extBut _ _ D.TOz.symm (hs₆.extBut _ _ D.i3z.symm (hs₅.extBut _ _ D.TOz.symm (hs₄.extBut _ _ D.i2z.symm (hs₃.extBut _ _ D.TOz.symm (hs₂.extBut _ _ D.i1z.symm hz₁)))))
  have hk₇ : ∀ c o, c ≠ z → c ≠ TO → c ≠ i1 → c ≠ i2 → c ≠ i3 → s.heap.get? c = some o → h₇.get? c = some o := fun c o c1 c2 c3 c4 c5 e =>
    hs₇.extBut _ _ c2 (hs₆.extBut _ _ c5 (hs₅.extBut _ _ c2 (hs₄.extBut _ _ c4 (hs₃.extBut _ _ c2 (hs₂.extBut _ _ c3 (hs₁.extBut _ _ c1 e))))))
  have h1₇ : h₇.IsListIter i1 l1 (k + 1) := ((((h1₂.extBut hs₃.extBut D.TOi1.symm).extBut hs₄.extBut D.i12).extBut hs₅.extBut D.TOi1.symm).extBut hs₆.extBut D.i13).extBut hs₇.extBut D.TOi1.symm
  have h2₇ : h₇.IsListIter i2 l2 (k + 1) := ((h2₄.extBut hs₅.extBut D.TOi2.symm).extBut hs₆.extBut D.i23).extBut hs₇.extBut D.TOi2.symm
  have h3₇ : h₇.IsListIter i3 l3 (k + 1) := h3₆.extBut hs₇.extBut D.TOi3.symm
  have hzlt : z < h₇.objs.size := Heap.lt_size hz₇
  have hTOlt : TO < h₇.objs.size := Heap.lt_size hTO₇
  show wpAny _ _ (Builtin.SmallTypes.ownedTupleHandOut (.ref z) (.ref h₇.objs.size) >>= _) _ _ _
  refine wpAny_bind ?_
  unfold Builtin.SmallTypes.ownedTupleHandOut
  have hz₈ : IsZip (h₇.push { cls := .type "tuple", data := .seq #[x, y, u] }) z TI TO .ellipsis := Heap.get?_push_of_some _ hz₇
  refine wpAny_bind (wpAny_setField_rec hz₈ (by simp) fun h₉ hz₉ hs₉ => ?_)
  replace hz₉ : IsZip h₉ z TI TO (rawInt h₇.objs.size) := hz₉
  refine wpAny_setField_rec hz₉ (by simp) fun h₀ hz₀ hs₀ => ?_
  replace hz₀ : IsZip h₀ z TI TO (rawInt h₇.objs.size) := hz₀
  have up : ∀ c o, c ≠ z → h₇.get? c = some o → h₀.get? c = some o := fun c o c1 e => hs₀.extBut _ _ c1 (hs₉.extBut _ _ c1 (Heap.get?_push_of_some _ e))
  have hT₀ : IsTri h₀ h₇.objs.size x y u := hs₀.extBut _ _ (Nat.ne_of_gt hzlt) (hs₉.extBut _ _ (Nat.ne_of_gt hzlt) (Heap.get?_push_size _ rfl))
  have hz0 : h₀.objs.size = h₇.objs.size + 1 := by rw [hs₀.1, hs₉.1, Heap.size_push]
  rw [hsz] at hz₀ hT₀ hz0
  refine wpAny_pure ⟨_, rfl, ?_⟩
  show Q (.ref h₇.objs.size) _
  rw [hsz]
  exact hQ h₀ hz₀ (up _ _ D.TOz hTO₇) (h1₇.at fun o e => up _ o D.i1z e) (h2₇.at fun o e => up _ o D.i2z e) (h3₇.at fun o e => up _ o D.i3z e) hT₀ hz0 fun c o c1 c2 c3 c4 c5 e => up c o c1 (hk₇ c o c1 c2 c3 c4 c5 e)
theorem next_end {z TI TO i1 i2 i3 l1 l2 l3 : Addr} {k : Nat} {xs ys zs : Array Value} {a b c : Value} {Q : Fin → Shared → Prop} (hh : A.handled = none) (D : Apart z TI TO i1 i2 i3 l1 l2 l3)
    (hz : IsZip s.heap z TI TO .none) (hTI : IsTri s.heap TI (.ref i1) (.ref i2) (.ref i3)) (hTO : IsTri s.heap TO a b c)
    (h1 : s.heap.IsListIter i1 l1 k) (h2 : s.heap.IsListIter i2 l2 k) (h3 : s.heap.IsListIter i3 l3 k) (hl1 : s.heap.IsList l1 xs) (hl2 : s.heap.IsList l2 ys) (hl3 : s.heap.IsList l3 zs) (hend : xs[k]? = none ∨ ys[k]? = none ∨ zs[k]? = none)
    (hE : ∀ h' e, (∀ c o, c ≠ z → c ≠ TO → c ≠ i1 → c ≠ i2 → c ≠ i3 → s.heap.get? c = some o → h'.get? c = some o) → (∃ o, h'.get? e = some o ∧ o.cls = .type "StopIteration") → E (.ref e) { s with heap := h' }) :
    wpAny (model prog w) A (Builtin.«zip.__next__» ⟨[.ref z], []⟩) Q E s := by
  show wpAny _ _ (field (.ref z) 2 >>= _) _ _ _
  refine wpAny_bind (wpAny_field hz rfl (x := .bool false) rfl ?_)
  show wpAny _ _ (field (.ref z) 3 >>= _) _ _ _
  refine wpAny_bind (wpAny_field hz rfl (x := .ref TI) rfl ?_)
  refine wpAny_bind (wpAny_seqItems hTI rfl ?_)
  show wpAny _ _ (Builtin.SmallTypes.ownedTupleIsFree (.ref z) >>= _) _ _ _
  refine wpAny_bind ?_
  unfold Builtin.SmallTypes.ownedTupleIsFree
  refine wpAny_bind (wpAny_field hz rfl (x := .none) rfl (wpAny_pure ?_))
  simp only [if_true]
  refine wpAny_bind (wpAny_rule ?_)
  refine wpAny_bind (wpAny_field hz rfl (x := .ref TO) rfl ?_)
  refine wpAny_bind (wpAny_setField_rec hz (by simp) fun h₁ hz₁ hs₁ => ?_)
  replace hz₁ : IsZip h₁ z TI TO .ellipsis := hz₁
  refine wpAny_bind ?_
  simp only [List.zipIdx_cons, List.zipIdx_nil, List.forIn_cons, List.forIn_nil]
  refine wpAny_bind (wpAny_bind (wpAny_onRaise ?_))
  show wpAny _ _ (Builtin.SmallTypes.nextOf (.ref i1) >>= _) _ _ _
  cases hx : xs[k]? with
  | none =>
    refine wpAny_bind (wpAny_nextOf_list_end hh (h1.extBut hs₁.extBut D.i1z) (hl1.extBut hs₁.extBut D.l1z) hx fun h₂ e hs₂ he => ?_)
    obtain ⟨oe, hoe, hce⟩ := he
    have hz₂ : IsZip h₂ z TI TO .ellipsis := hs₂ _ _ D.i1z.symm hz₁
    have hez : e ≠ z := fun x => by subst x; rw [hz₂] at hoe; cases hoe; simp at hce
    refine wpAny_setField_rec hz₂ (by simp) fun h₃ _ hs₃ => hE h₃ e (fun c o c1 _ c3 _ _ x => hs₃.extBut _ _ c1 (hs₂ _ _ c3 (hs₁.extBut _ _ c1 x))) ⟨oe, hs₃.extBut _ _ hez hoe, hce⟩
  | some x =>
    refine wpAny_bind (wpAny_nextOf_list_item (h1.extBut hs₁.extBut D.i1z) (hl1.extBut hs₁.extBut D.l1z) hx fun h₂ h1₂ hs₂ => wpAny_pure ?_)
    have hTO₂ : IsTri h₂ TO a b c := hs₂.extBut _ _ D.TOi1 (hs₁.extBut _ _ D.TOz hTO)
    refine wpAny_bind (wpAny_seqItems hTO₂ rfl ?_)
    refine wpAny_bind (upd_tri hTO₂ fun h₃ hTO₃ hs₃ => ?_)
    replace hTO₃ : IsTri h₃ TO x b c := hTO₃
    refine wpAny_bind (wpAny_letGo (wpAny_pure ?_))
    refine wpAny_bind (wpAny_bind (wpAny_onRaise ?_))
    show wpAny _ _ (Builtin.SmallTypes.nextOf (.ref i2) >>= _) _ _ _
    cases hy : ys[k]? with
    | none =>
      refine wpAny_bind (wpAny_nextOf_list_end hh (((h2.extBut hs₁.extBut D.i2z).extBut hs₂.extBut D.i12.symm).extBut hs₃.extBut D.TOi2.symm)
        (((hl2.extBut hs₁.extBut D.l2z).extBut hs₂.extBut D.l2i1).extBut hs₃.extBut D.l2TO) hy fun h₄ e hs₄ he => ?_)
      obtain ⟨oe, hoe, hce⟩ := he
      have hz₄ : IsZip h₄ z TI TO .ellipsis := hs₄ _ _ D.i2z.symm (hs₃.extBut _ _ D.TOz.symm (hs₂.extBut _ _ D.i1z.symm hz₁))
      have hez : e ≠ z := fun x => by subst x; rw [hz₄] at hoe; cases hoe; simp at hce
      refine wpAny_setField_rec hz₄ (by simp) fun h₅ _ hs₅ => hE h₅ e (fun c o c1 c2 c3 c4 _ x => hs₅.extBut _ _ c1 (hs₄ _ _ c4 (hs₃.extBut _ _ c2 (hs₂.extBut _ _ c3 (hs₁.extBut _ _ c1 x))))) ⟨oe, hs₅.extBut _ _ hez hoe, hce⟩
    | some y =>
      have hu : zs[k]? = none := by
        rcases hend with h | h | h
        · rw [hx] at h; cases h
        · rw [hy] at h; cases h
        · exact h
      refine wpAny_bind (wpAny_nextOf_list_item (((h2.extBut hs₁.extBut D.i2z).extBut hs₂.extBut D.i12.symm).extBut hs₃.extBut D.TOi2.symm)
        (((hl2.extBut hs₁.extBut D.l2z).extBut hs₂.extBut D.l2i1).extBut hs₃.extBut D.l2TO) hy fun h₄ h2₄ hs₄ => wpAny_pure ?_)
      have hTO₄ : IsTri h₄ TO x b c := hs₄.extBut _ _ D.TOi2 hTO₃
      refine wpAny_bind (wpAny_seqItems hTO₄ rfl ?_)
      refine wpAny_bind (upd_tri hTO₄ fun h₅ hTO₅ hs₅ => ?_)
      refine wpAny_bind (wpAny_letGo (wpAny_pure ?_))
      refine wpAny_bind (wpAny_bind (wpAny_onRaise ?_))
      show wpAny _ _ (Builtin.SmallTypes.nextOf (.ref i3) >>= _) _ _ _
      refine wpAny_bind (wpAny_nextOf_list_end hh (((((h3.extBut hs₁.extBut D.i3z).extBut hs₂.extBut D.i13.symm).extBut hs₃.extBut D.TOi3.symm).extBut hs₄.extBut D.i23.symm).extBut hs₅.extBut D.TOi3.symm)
        (((((hl3.extBut hs₁.extBut D.l3z).extBut hs₂.extBut D.l3i1).extBut hs₃.extBut D.l3TO).extBut hs₄.extBut D.l3i2).extBut hs₅.extBut D.l3TO) hu fun h₆ e hs₆ he => ?_)
      obtain ⟨oe, hoe, hce⟩ := he
      have hz₆ : IsZip h₆ z TI TO .ellipsis := hs₆ _ _ D.i3z.symm (hs₅.extBut _ _ D.TOz.symm (hs₄.extBut _ _ D.i2z.symm (hs₃.extBut _ _ D.TOz.symm (hs₂.extBut _ _ D.i1z.symm hz₁))))
      have hez : e ≠ z := fun x => by subst x; rw [hz₆] at hoe; cases hoe; simp at hce
      refine wpAny_setField_rec hz₆ (by simp) fun h₇ _ hs₇ => hE h₇ e (fun c o c1 c2 c3 c4 c5 x => hs₇.extBut _ _ c1 (hs₆ _ _ c5 (hs₅.extBut _ _ c2 (hs₄.extBut _ _ c4 (hs₃.extBut _ _ c2 (hs₂.extBut _ _ c3 (hs₁.extBut _ _ c1 x))))))) ⟨oe, hs₇.extBut _ _ hez hoe, hce⟩
theorem pyNext_item {z TI TO i1 i2 i3 l1 l2 l3 : Addr} {k : Nat} {xs ys zs : Array Value} {x y u a b c : Value} {Q : Option Value → Shared → Prop} (D : Apart z TI TO i1 i2 i3 l1 l2 l3)
    (hz : IsZip s.heap z TI TO .none) (hTI : IsTri s.heap TI (.ref i1) (.ref i2) (.ref i3)) (hTO : IsTri s.heap TO a b c)
    (h1 : s.heap.IsListIter i1 l1 k) (h2 : s.heap.IsListIter i2 l2 k) (h3 : s.heap.IsListIter i3 l3 k) (hl1 : s.heap.IsList l1 xs) (hl2 : s.heap.IsList l2 ys) (hl3 : s.heap.IsList l3 zs) (hx : xs[k]? = some x) (hy : ys[k]? = some y) (hu : zs[k]? = some u)
    (hQ : ∀ h', IsZip h' z TI TO (rawInt s.heap.objs.size) → IsTri h' TO x y u → h'.IsListIter i1 l1 (k + 1) → h'.IsListIter i2 l2 (k + 1) → h'.IsListIter i3 l3 (k + 1) → IsTri h' s.heap.objs.size x y u → h'.objs.size = s.heap.objs.size + 1 →
      (∀ c o, c ≠ z → c ≠ TO → c ≠ i1 → c ≠ i2 → c ≠ i3 → s.heap.get? c = some o → h'.get? c = some o) → Q (some (.ref s.heap.objs.size)) { s with heap := h' }) :
    wpAny (model prog w) A (pyNext (.ref z)) Q E s := by
  have hT : s.TypeIs (.ref z) "zip" := ⟨_, hz, rfl⟩
  unfold pyNext
  exact wpAny_bind (wpAny_attempt (wpAny_callSpecial?_slot (name := Str.ofString "__next__") hT F.slot_zip_next
    (wpAny_call_entry F.slot_zip_next hT F.entry_zip_next
      (next_item D hz hTI hTO h1 h2 h3 hl1 hl2 hl3 hx hy hu fun h' a1 a2 a3 a4 a5 a6 a7 a8 => wpAny_pure (hQ h' a1 a2 a3 a4 a5 a6 a7 a8)) (F.args_zip_next_1 _))))
theorem pyNext_end {z TI TO i1 i2 i3 l1 l2 l3 : Addr} {k : Nat} {xs ys zs : Array Value} {a b c : Value} {Q : Option Value → Shared → Prop} (hh : A.handled = none) (D : Apart z TI TO i1 i2 i3 l1 l2 l3)
    (hz : IsZip s.heap z TI TO .none) (hTI : IsTri s.heap TI (.ref i1) (.ref i2) (.ref i3)) (hTO : IsTri s.heap TO a b c)
    (h1 : s.heap.IsListIter i1 l1 k) (h2 : s.heap.IsListIter i2 l2 k) (h3 : s.heap.IsListIter i3 l3 k) (hl1 : s.heap.IsList l1 xs) (hl2 : s.heap.IsList l2 ys) (hl3 : s.heap.IsList l3 zs) (hend : xs[k]? = none ∨ ys[k]? = none ∨ zs[k]? = none)
    (hQ : ∀ h', (∀ c o, c ≠ z → c ≠ TO → c ≠ i1 → c ≠ i2 → c ≠ i3 → s.heap.get? c = some o → h'.get? c = some o) → Q none { s with heap := h' }) : wpAny (model prog w) A (pyNext (.ref z)) Q E s := by
  have hT : s.TypeIs (.ref z) "zip" := ⟨_, hz, rfl⟩
  unfold pyNext
  refine wpAny_bind (wpAny_attempt (wpAny_callSpecial?_slot (name := Str.ofString "__next__") hT F.slot_zip_next
    (wpAny_call_entry F.slot_zip_next hT F.entry_zip_next (next_end hh D hz hTI hTO h1 h2 h3 hl1 hl2 hl3 hend fun h' e hk he => ?_) (F.args_zip_next_1 _))))
  obtain ⟨o, ho, hc⟩ := he
  refine wpAny_bind (wpAny_isInstance (T := "StopIteration") (b := true) ⟨o, ho, hc⟩ isSubtype_stop ?_)
  exact wpAny_pure (hQ _ hk)
end
abbrev H1 (h : Heap) (l : Addr) : Heap := h.push { cls := .type "list_iterator", data := .fields #[.ref l, .int 0 0] }
abbrev H3 (h : Heap) (l1 l2 l3 : Addr) : Heap := H1 (H1 (H1 h l1) l2) l3
abbrev H4 (h : Heap) (l1 l2 l3 : Addr) : Heap := (H3 h l1 l2 l3).push { cls := .type "tuple", data := .seq #[.ref h.objs.size, .ref (H1 h l1).objs.size, .ref (H1 (H1 h l1) l2).objs.size] }
abbrev H5 (h : Heap) (l1 l2 l3 : Addr) : Heap := (H4 h l1 l2 l3).push { cls := .type "tuple", data := .seq #[.none, .none, .none] }
abbrev H6 (h : Heap) (l1 l2 l3 : Addr) : Heap := (H5 h l1 l2 l3).push { cls := .type "zip", data := .fields #[.none, .bool false, .bool false, .ref (H3 h l1 l2 l3).objs.size, .ref (H4 h l1 l2 l3).objs.size] }
theorem meets_new (l1 l2 l3 : Addr) (xs ys zs : Array Value) :
    Meets (Builtin.«zip.__new__» ⟨[.type "zip", .ref l1, .ref l2, .ref l3], []⟩) (fun _ R s => s.heap.IsList l1 xs ∧ s.heap.IsList l2 ys ∧ s.heap.IsList l3 zs ∧
      R (.ok (.ret (.ref (H5 s.heap l1 l2 l3).objs.size))) { s with heap := H6 s.heap l1 l2 l3 }) :=
  .of_wp fun prog w A R s h => by
    obtain ⟨hp, g, d, tk, os⟩ := s; obtain ⟨hl1, hl2, hl3, h⟩ := h
    have hsub := sub_zip
    have hL1 : Heap.IsList (Shared.heap ⟨hp, g, d, tk, os⟩) l1 xs := hl1
    have hL2 : Heap.IsList (Shared.heap ⟨hp.push { cls := .type "list_iterator", data := .fields #[.ref l1, .int 0 0] }, g, d, tk, os⟩) l2 ys := Heap.IsList.push hl2 _
    have hL3 : Heap.IsList (Shared.heap ⟨(hp.push { cls := .type "list_iterator", data := .fields #[.ref l1, .int 0 0] }).push { cls := .type "list_iterator", data := .fields #[.ref l2, .int 0 0] }, g, d, tk, os⟩) l3 zs := Heap.IsList.push (Heap.IsList.push hl3 _) _
    wp_walk using wpAny_pyIter_list hL1, wpAny_pyIter_list hL2, wpAny_pyIter_list hL3
    exact ⟨_, rfl, h⟩
theorem call_zip {prog : Program} {w : World} {A : Around} {E : Value → Shared → Prop} {s : Shared} {l1 l2 l3 : Addr} {xs ys zs : Array Value} {Q : Value → Shared → Prop} (hl1 : s.heap.IsList l1 xs) (hl2 : s.heap.IsList l2 ys) (hl3 : s.heap.IsList l3 zs)
    (h : ∀ h', IsZip h' (s.heap.objs.size + 5) (s.heap.objs.size + 3) (s.heap.objs.size + 4) .none → IsTri h' (s.heap.objs.size + 3) (.ref s.heap.objs.size) (.ref (s.heap.objs.size + 1)) (.ref (s.heap.objs.size + 2)) →
      IsTri h' (s.heap.objs.size + 4) .none .none .none → h'.IsListIter s.heap.objs.size l1 0 → h'.IsListIter (s.heap.objs.size + 1) l2 0 → h'.IsListIter (s.heap.objs.size + 2) l3 0 →
      (∀ c o, s.heap.get? c = some o → h'.get? c = some o) → Q (.ref (s.heap.objs.size + 5)) { s with heap := h' }) :
    wpAny (model prog w) A (call (.type "zip") [.ref l1, .ref l2, .ref l3]) Q E s := by
  refine callType_new F.called_zip (by decide) (typeCall_3 _ _ _) (newCall_3 _ _ _) (fun obj => args_init_4 obj _ _ _) F.entry_zip_new
    (meets_new l1 l2 l3 xs ys zs) ⟨hl1, hl2, hl3, ?_⟩
  have z1 : (H1 s.heap l1).objs.size = s.heap.objs.size + 1 := Heap.size_push ..
  have z2 : (H1 (H1 s.heap l1) l2).objs.size = s.heap.objs.size + 2 := by rw [Heap.size_push, z1]
  have z3 : (H3 s.heap l1 l2 l3).objs.size = s.heap.objs.size + 3 := by rw [Heap.size_push, z2]
  have z4 : (H4 s.heap l1 l2 l3).objs.size = s.heap.objs.size + 4 := by rw [Heap.size_push, z3]
  have z5 : (H5 s.heap l1 l2 l3).objs.size = s.heap.objs.size + 5 := by rw [Heap.size_push, z4]
  have g6 : (H6 s.heap l1 l2 l3).get? (H5 s.heap l1 l2 l3).objs.size = some _ := Heap.get?_push_size _ rfl
  have g5 : (H6 s.heap l1 l2 l3).get? (H4 s.heap l1 l2 l3).objs.size = some _ := Heap.get?_push_of_some _ (Heap.get?_push_size _ rfl)
  have g4 : (H6 s.heap l1 l2 l3).get? (H3 s.heap l1 l2 l3).objs.size = some _ := Heap.get?_push_of_some _ (Heap.get?_push_of_some _ (Heap.get?_push_size _ rfl))
  have g3 : (H6 s.heap l1 l2 l3).get? (H1 (H1 s.heap l1) l2).objs.size = some _ := Heap.get?_push_of_some _ (Heap.get?_push_of_some _ (Heap.get?_push_of_some _ (Heap.get?_push_size _ rfl)))
  have g2 : (H6 s.heap l1 l2 l3).get? (H1 s.heap l1).objs.size = some _ := Heap.get?_push_of_some _ (Heap.get?_push_of_some _ (Heap.get?_push_of_some _ (Heap.get?_push_of_some _ (Heap.get?_push_size _ rfl))))
  have g1 : (H6 s.heap l1 l2 l3).get? s.heap.objs.size = some _ := Heap.get?_push_of_some _ (Heap.get?_push_of_some _ (Heap.get?_push_of_some _ (Heap.get?_push_of_some _ (Heap.get?_push_of_some _ (Heap.get?_push_size _ rfl)))))
  show _ ∧ _
  rw [z3, z4, z5] at g6
  rw [z1, z2, z3] at g4
  rw [z4] at g5
  rw [z1] at g2
  rw [z2] at g3
  rw [z5]
  exact ⟨⟨_, g6, rfl⟩, h _ g6 g4 g5 ⟨_, g1, rfl, rfl⟩ ⟨_, g2, rfl, rfl⟩ ⟨_, g3, rfl, rfl⟩ fun c o x =>
    Heap.get?_push_of_some _ (Heap.get?_push_of_some _ (Heap.get?_push_of_some _ (Heap.get?_push_of_some _ (Heap.get?_push_of_some _ (Heap.get?_push_of_some _ x)))))⟩
end Z3
namespace Fx
open PySem PySem.Spec L2
open PyProof.Rows hiding St
/-- the lists at a, b, c as they stand at each turn, the items in new tuples -/
def It3 (K : PySem.W.Frag) (a b c : Addr) : It :=
  ⟨fun i H => ∃ (xs ys zs : List V) (x y z : V), SqL K H a xs ∧ SqL K H b ys ∧ SqL K H c zs ∧ xs[i]? = some x ∧ ys[i]? = some y ∧ zs[i]? = some z,
    fun i H v H' => ∃ T x y z, v = .ref T ∧ H T = none ∧ H' = upd H T (.tup [x, y, z]) ∧ (∀ xs, SqL K H a xs → xs[i]? = some x) ∧ (∀ ys, SqL K H b ys → ys[i]? = some y) ∧ ∀ zs, SqL K H c zs → zs[i]? = some z,
    fun i H => ∃ xs ys zs : List V, SqL K H a xs ∧ SqL K H b ys ∧ SqL K H c zs ∧ (xs.length ≤ i ∨ ys.length ≤ i ∨ zs.length ≤ i)⟩
theorem turn3 {P : Program} {w : World} {K : PySem.W.Frag} {elts : List Expr} {kk : Nat} {tpos : Pos} {a b c z TI TO i1 i2 i3 : Addr} (D : Z3.Apart z TI TO i1 i2 i3 a b c) :
    Turn P w K (.Tuple elts kk tpos) (It3 K a b c) [z, TI, TO, i1, i2, i3] z (fun i h => IsZip h z TI TO .none ∧ Z3.IsTri h TI (.ref i1) (.ref i2) (.ref i3) ∧ (∃ x y u, Z3.IsTri h TO x y u) ∧ h.IsListIter i1 a i ∧ h.IsListIter i2 b i ∧ h.IsListIter i3 c i) where
  mem := by simp
  obj := fun i h st d hd => by
    obtain ⟨hz, hTI, ⟨x, y, u, hTO⟩, ⟨o1, e1, _, d1⟩, ⟨o2, e2, _, d2⟩, ⟨o3, e3, _, d3⟩⟩ := st
    have e' : d = z ∨ d = TI ∨ d = TO ∨ d = i1 ∨ d = i2 ∨ d = i3 := by simpa using hd
    rcases e' with q | q | q | q | q | q
    · rw [q]; exact ⟨_, hz, fun v q => nomatch q⟩
    · rw [q]; exact ⟨_, hTI, fun v q => nomatch q⟩
    · rw [q]; exact ⟨_, hTO, fun v q => nomatch q⟩
    · rw [q]; exact ⟨o1, e1, fun v q => by rw [d1] at q; cases q⟩
    · rw [q]; exact ⟨o2, e2, fun v q => by rw [d2] at q; cases q⟩
    · rw [q]; exact ⟨o3, e3, fun v q => by rw [d3] at q; cases q⟩
  keep := fun i h h' st k => by
    obtain ⟨hz, hTI, ⟨x, y, u, hTO⟩, h1, h2, h3⟩ := st
    exact ⟨k z (by simp) _ hz, k TI (by simp) _ hTI, ⟨x, y, u, k TO (by simp) _ hTO⟩, h1.at fun o q => k i1 (by simp) o q, h2.at fun o q => k i2 (by simp) o q, h3.at fun o q => k i3 (by simp) o q⟩
  item := by
    intro X hP hw hK hc i pins s σ H E I hf st hg
    subst hP hw hK
    obtain ⟨hz, hTI, ⟨x0, y0, u0, hTO⟩, h1, h2, h3⟩ := st
    obtain ⟨xs, ys, zs, x, y, t, hqx, hqy, hqz, hx, hy, ht⟩ := hg
    obtain ⟨its, rv, p, _⟩ := I.list hqx
    obtain ⟨its2, rv2, p2, _⟩ := I.list hqy
    obtain ⟨its3, rv3, p3, _⟩ := I.list hqz
    obtain ⟨u, hu, ru⟩ := rv.get hx
    obtain ⟨u2, hu2, ru2⟩ := rv2.get hy
    obtain ⟨u3, hu3, ru3⟩ := rv3.get ht
    have hzl : z < s.heap.objs.size := Heap.lt_size hz
    refine Z3.pyNext_item D hz hTI hTO h1 h2 h3 p.isList p2.isList p3.isList (x := u) (y := u2) (u := u3) (by simpa using hu) (by simpa using hu2) (by simpa using hu3) fun h' z' TO' h1' h2' h3' hT hsz hk => ?_
    refine ⟨_, rfl, wpAny_letOwnedTupleGo_zip (s := { s with heap := h' }) z' fun h'' z'' sb => ?_⟩
    have hT2 : h''.get? s.heap.objs.size = some { cls := .type "tuple", data := .seq #[u, u2, u3] } := (sb.2 _ (Nat.ne_of_gt hzl)).trans hT
    have new : ObjOk X.prog X.w (upd H s.heap.objs.size (.tup [x, y, t])) h'' s.heap.objs.size (.tup [x, y, t]) :=
      ⟨by show 3 ≤ sizeLine; decide, [u, u2, u3], .cons ru (.cons ru2 (.cons ru3 .nil)), ⟨_, hT2, rfl, _, rfl⟩⟩
    have I1 : Inv X pins σ (upd H s.heap.objs.size (.tup [x, y, t])) { s with heap := h'' } :=
      I.turnedNew (t' := s.toks) (ch := [z, TI, TO, i1, i2, i3]) (fun c o hb q => (sb.2 c (fun q' => hb (by simp [q']))).trans (hk c o (fun q' => hb (by simp [q'])) (fun q' => hb (by simp [q'])) (fun q' => hb (by simp [q'])) (fun q' => hb (by simp [q'])) (fun q' => hb (by simp [q'])) q)) hf (Nat.le_refl _) new
    refine ⟨.ref s.heap.objs.size, _, I1, rfl, ⟨_, x, y, t, rfl, I.hok.fresh (Nat.le_refl _), rfl, fun l hl => by rw [I.list_inj hl hqx]; exact hx, fun l hl => by rw [I.list_inj hl hqy]; exact hy, fun l hl => by rw [I.list_inj hl hqz]; exact ht⟩, ⟨z'', ?_, ⟨u, u2, u3, ?_⟩, ?_, ?_, ?_⟩, fun c hcm => ?_⟩
    · exact (sb.2 _ D.TIz).trans (hk _ _ D.TIz D.TITO D.TIi1 D.TIi2 D.TIi3 hTI)
    · exact (sb.2 _ D.TOz).trans TO'
    · exact h1'.at fun o q => (sb.2 _ D.i1z).trans q
    · exact h2'.at fun o q => (sb.2 _ D.i2z).trans q
    · exact h3'.at fun o q => (sb.2 _ D.i3z).trans q
    · have hlt : c < s.heap.objs.size := by
        have e' : c = z ∨ c = TI ∨ c = TO ∨ c = i1 ∨ c = i2 ∨ c = i3 := by simpa using hcm
        rcases e' with q | q | q | q | q | q
        · rw [q]; exact hzl
        · rw [q]; exact Heap.lt_size hTI
        · rw [q]; exact Heap.lt_size hTO
        · rw [q]; obtain ⟨_, e1, _⟩ := h1; exact Heap.lt_size e1
        · rw [q]; obtain ⟨_, e2, _⟩ := h2; exact Heap.lt_size e2
        · rw [q]; obtain ⟨_, e3, _⟩ := h3; exact Heap.lt_size e3
      rw [upd_ne (Nat.ne_of_lt hlt)]
      exact (hf c hcm).1
  done := by
    intro X hP hw hK hc i pins s σ H E I hf st hg
    subst hP hw hK
    obtain ⟨hz, hTI, ⟨x0, y0, u0, hTO⟩, h1, h2, h3⟩ := st
    obtain ⟨xs, ys, zs, hqx, hqy, hqz, hend⟩ := hg
    obtain ⟨its, rv, p, _⟩ := I.list hqx
    obtain ⟨its2, rv2, p2, _⟩ := I.list hqy
    obtain ⟨its3, rv3, p3, _⟩ := I.list hqz
    have l1 := rv.length
    have l2 := rv2.length
    have l3 := rv3.length
    have he : its.toArray[i]? = none ∨ its2.toArray[i]? = none ∨ its3.toArray[i]? = none := by
      rcases hend with q | q | q
      · exact .inl (by simp; omega)
      · exact .inr (.inl (by simp; omega))
      · exact .inr (.inr (by simp; omega))
    exact Z3.pyNext_end (I.ok.hd hc) D hz hTI hTO h1 h2 h3 p.isList p2.isList p3.isList he fun h' hk => ⟨rfl, I.turnedL (t' := s.toks) (ch := [z, TI, TO, i1, i2, i3]) (fun c o hb q =>
      hk c o (fun q' => hb (by simp [q'])) (fun q' => hb (by simp [q'])) (fun q' => hb (by simp [q'])) (fun q' => hb (by simp [q'])) (fun q' => hb (by simp [q'])) q) hf⟩
  self := fun A i s Q E st h => wpAny_pyIter_zip st.1 h
def iZip3 (K : PySem.W.Frag) (ta : TA) : TI := fun σ H R => ta σ H fun vs H1 => ∃ a b c xs ys zs, vs = [.ref a, .ref b, .ref c] ∧ SqL K H1 a xs ∧ SqL K H1 b ys ∧ SqL K H1 c zs ∧ R (It3 K a b c) H1
theorem pi_zip3 {X : Cx} {e e2 e3 : Expr} {ta : TA} {p pos tpos : Pos} {elts : List Expr} {kk : Nat} (hg : Gl X "zip") (hm : X.mg "zip" = none) (ha : PA X [e, e2, e3] ta)
    (hs : starEach [e, e2, e3] X.env = (false, eval e X.env) :: starEach [e2, e3] X.env := by rfl) (hpl : (backTo pos (starEach [e2, e3] X.env)).any (·.1) = false := by rfl) :
    PI X (.Tuple elts kk tpos) (.Call (.Name "zip" p) [e, e2, e3] [] pos) (iZip3 X.K ta) := by
  refine ⟨fun pins s σ H R I h => ?_⟩
  refine Call_ (ld_blt I hg hm PyProof.Rows.boot_zip (PyProof.Rows.callWith_type1 (thn (ha.run pos pins s σ H _ I h) fun us s1 ⟨vs, H1, I1, r1, q1⟩ => ?_) hs hpl))
  obtain ⟨a, b, c, xs, ys, zs, ex, hqx, hqy, hqz, q⟩ := q1
  subst ex
  cases r1 with
  | cons r rr =>
    cases rr with
    | cons r' rr =>
      cases rr with
      | cons r'' rr =>
        cases rr
        cases r
        cases r'
        cases r''
        obtain ⟨its, rv, p1, _⟩ := I1.list hqx
        obtain ⟨its2, rv2, p2, _⟩ := I1.list hqy
        obtain ⟨its3, rv3, p3, _⟩ := I1.list hqz
        refine Z3.call_zip p1.isList p2.isList p3.isList fun h' hz hTI hTO h1 h2 h3 hk => wpAny_pyIter_zip hz ?_
        have I2 : Inv X pins σ H1 { s1 with heap := h' } := I1.kept (t' := s1.toks) hk
        refine ⟨s1.heap.objs.size + 5, [s1.heap.objs.size + 5, s1.heap.objs.size + 3, s1.heap.objs.size + 4, s1.heap.objs.size, s1.heap.objs.size + 1, s1.heap.objs.size + 2], _, _, H1, rfl, I2, turn3 (Z3.apart_new s1.heap.objs.size a b c p1.lt p2.lt p3.lt), ⟨hz, hTI, ⟨_, _, _, hTO⟩, h1, h2, h3⟩, fun d hdm => ?_, q⟩
        have e' : d = s1.heap.objs.size + 5 ∨ d = s1.heap.objs.size + 3 ∨ d = s1.heap.objs.size + 4 ∨ d = s1.heap.objs.size ∨ d = s1.heap.objs.size + 1 ∨ d = s1.heap.objs.size + 2 := by simpa using hdm
        have hle : s1.heap.objs.size ≤ d := by
          rcases e' with z | z | z | z | z | z
          · rw [z]; exact Nat.le_add_right _ _
          · rw [z]; exact Nat.le_add_right _ _
          · rw [z]; exact Nat.le_add_right _ _
          · rw [z]; exact Nat.le_refl _
          · rw [z]; exact Nat.le_add_right _ _
          · rw [z]; exact Nat.le_add_right _ _
        exact I1.fpOk hle (I1.hok.fresh hle)
/-! the reading -/
variable {K : PySem.W.Frag} {η : List Addr} {S : Sto} {H : Hp} {X : Cx} {W : WX} {e : Expr}
def zipI3 (xs ys zs : List V) : List Itm := (xs.zip (ys.zip zs)).map fun p => .many [p.1, p.2.1, p.2.2]
def chkZ3 (v w u : V) (xs ys zs : List V) : Sto → Bool := fun S => (rdL v S == some xs) && (rdL w S == some ys) && (rdL u S == some zs)
def iZ3 (m : St → Sto → R (List V)) : St → Sto → R AI := fun σ S => (m σ S).bind fun vs S1 => match vs with
  | [v, w, u] => match rdL v S1, rdL w S1, rdL u S1 with
    | some xs, some ys, some zs => .ok (zipI3 xs ys zs, chkZ3 v w u xs ys zs) S1
    | _, _, _ => .bad
  | _ => .bad
theorem JR.zip3 {v w y u z z3 : V} {xs ys zs : List V} (h : rdL v S = some xs) (h2 : rdL w S = some ys) (h3 : rdL y S = some zs) (r : Rel K η S H) (q : VR η v u) (q2 : VR η w z) (q3 : VR η y z3) : ∃ a b c us vs ws, u = .ref a ∧ z = .ref b ∧ z3 = .ref c ∧ SqL K H a us ∧ SqL K H b vs ∧ SqL K H c ws ∧
    JR K η (zipI3 xs ys zs, chkZ3 v w y xs ys zs) (It3 K a b c) := by
  obtain ⟨a, us, rfl, hq, r2, z1⟩ := rdL_ok h r q
  obtain ⟨b, vs, rfl, hq2, r3, z2⟩ := rdL_ok h2 r q2
  obtain ⟨c, ws, rfl, hq3, r4, z4⟩ := rdL_ok h3 r q3
  have sp : ∀ {S'}, chkZ3 v w y xs ys zs S' = true → rdL v S' = some xs ∧ rdL w S' = some ys ∧ rdL y S' = some zs := fun {S'} hc => by
    unfold chkZ3 at hc
    rw [Bool.and_eq_true, Bool.and_eq_true] at hc
    exact ⟨by simpa using hc.1.1, by simpa using hc.1.2, by simpa using hc.2⟩
  refine ⟨a, b, c, us, vs, ws, rfl, rfl, rfl, hq, hq2, hq3, ?_, fun η' S' H' i it he hR hc hi => ?_, fun η' S' H' he hR hc => ?_⟩
  · show (zipI3 xs ys zs).length ≤ sizeLine
    unfold zipI3
    rw [List.length_map, List.length_zip]
    omega
  · obtain ⟨c1, c2, c3⟩ := sp hc
    obtain ⟨a', us', e', hq', r', z'⟩ := rdL_ok c1 hR (q.mono he)
    cases e'
    obtain ⟨b', vs', e', hq2', r2', z2'⟩ := rdL_ok c2 hR (q2.mono he)
    cases e'
    obtain ⟨c', ws', e', hq3', r3', z3'⟩ := rdL_ok c3 hR (q3.mono he)
    cases e'
    have hi : (zipI3 xs ys zs)[i]? = some it := hi
    unfold zipI3 at hi
    rw [List.getElem?_map] at hi
    cases hx : (xs.zip (ys.zip zs))[i]? with
    | none => rw [hx] at hi; cases hi
    | some p =>
      obtain ⟨x, y, t⟩ := p
      rw [hx] at hi
      cases hi
      rw [List.getElem?_zip_eq_some, List.getElem?_zip_eq_some] at hx
      obtain ⟨x1, hx1, rx1⟩ := pget r' hx.1
      obtain ⟨y1, hy1, ry1⟩ := pget r2' hx.2.1
      obtain ⟨t1, ht1, rt1⟩ := pget r3' hx.2.2
      refine ⟨⟨us', vs', ws', x1, y1, t1, hq', hq2', hq3', hx1, hy1, ht1⟩, fun t H2 hy => ?_⟩
      obtain ⟨T, x2, y2, t2, rfl, hT, rfl, f1, f2, f3⟩ := hy
      have e1 := (f1 us' hq').symm.trans hx1
      have e2 := (f2 vs' hq2').symm.trans hy1
      have e3 := (f3 ws' hq3').symm.trans ht1
      cases e1; cases e2; cases e3
      exact ⟨T, [x1, y1, t1], rfl, hT, rfl, .cons rx1 (.cons ry1 (.cons rt1 .nil))⟩
  · obtain ⟨c1, c2, c3⟩ := sp hc
    obtain ⟨a', us', e', hq', r', z'⟩ := rdL_ok c1 hR (q.mono he)
    cases e'
    obtain ⟨b', vs', e', hq2', r2', z2'⟩ := rdL_ok c2 hR (q2.mono he)
    cases e'
    obtain ⟨c', ws', e', hq3', r3', z3'⟩ := rdL_ok c3 hR (q3.mono he)
    cases e'
    refine ⟨us', vs', ws', hq', hq2', hq3', ?_⟩
    have e1 := r'.length
    have e2 := r2'.length
    have e3 := r3'.length
    show us'.length ≤ (zipI3 xs ys zs).length ∨ vs'.length ≤ (zipI3 xs ys zs).length ∨ ws'.length ≤ (zipI3 xs ys zs).length
    unfold zipI3
    rw [List.length_map, List.length_zip, List.length_zip]
    omega
theorem VsR.three {x y z : V} {us : List V} (h : VsR η [x, y, z] us) : ∃ u v w, us = [u, v, w] ∧ VR η x u ∧ VR η y v ∧ VR η z w := by
  cases h with
  | cons r t =>
    cases t with
    | cons r2 t2 =>
      cases t2 with
      | cons r3 t3 => cases t3; exact ⟨_, _, _, rfl, r, r2, r3⟩
theorem fi_zip3 {e2 e3 : Expr} {ma : St → Sto → R (List V)} {p pos tpos : Pos} {elts : List Expr} {kk : Nat} (hg : Gl X "zip") (hm : X.mg "zip" = none) (ha : FA X W [e, e2, e3] ma)
    (hs : starEach [e, e2, e3] X.env = (false, eval e X.env) :: starEach [e2, e3] X.env := by rfl) (hs2 : (backTo pos (starEach [e2, e3] X.env)).any (·.1) = false := by rfl) : FI X W (.Tuple elts kk tpos) (.Call (.Name "zip" p) [e, e2, e3] [] pos) (iZ3 ma) :=
  ⟨_, pi_zip3 hg hm ha.run hs hs2, fun σ H Q h => by
    obtain ⟨η, S, σ0, hR, hS, p⟩ := h
    refine ⟨η, S, σ0, hR, hS, (Po.bind (rel := VsR) p).imp fun us H1 ⟨η1, S1, v, e1, hR1, r1, p1⟩ => ?_⟩
    split at p1
    · rename_i v w y
      obtain ⟨u, z, z3, rfl, q1, q2, q3⟩ := VsR.three r1
      split at p1
      · rename_i xs ys zs h1 h2 h3
        obtain ⟨a, b, c, us, vs, ws, rfl, rfl, rfl, hq, hq2, hq3, j⟩ := JR.zip3 h1 h2 h3 hR1 q1 q2 q3
        exact ⟨a, b, c, us, vs, ws, rfl, hq, hq2, hq3, p1.now hR1 j⟩
      · exact p1.elim
    · exact p1.elim⟩
/-! working with it -/
theorem chkZ3_of {S : Sto} {v w u : V} {xs ys zs : List V} (h : rdL v S = some xs) (h' : rdL w S = some ys) (h'' : rdL u S = some zs) : chkZ3 v w u xs ys zs S = true := by simp [chkZ3, h, h', h'']
theorem iZ3_eq {m : St → Sto → R (List V)} {σ : St} {S S1 : Sto} {v w u : V} {xs ys zs : List V} (e : m σ S = .ok [v, w, u] S1) (h : rdL v S1 = some xs) (h' : rdL w S1 = some ys) (h'' : rdL u S1 = some zs) : iZ3 m σ S = .ok (zipI3 xs ys zs, chkZ3 v w u xs ys zs) S1 := by
  simp [iZ3, e, R.bind, h, h', h'']
end Fx
/-! Fx: a tuple is walked. -/
namespace Fx
open PySem PySem.Spec L2
open PyProof.Rows hiding St
variable {K : PySem.W.Frag} {η : List Addr} {S : Sto} {H : Hp} {X : Cx} {W : WX} {e : Expr} {m : St → Sto → R V}
def chkT (v : V) (xs : List V) : Sto → Bool := fun S => rdT v S == some xs
def iT (m : St → Sto → R V) : St → Sto → R AI := fun σ S => (m σ S).bind fun v S1 => match rdT v S1 with
  | some xs => .ok (xs.map .one, chkT v xs) S1
  | none => .bad
theorem JR.tup {v u : V} {xs : List V} (h : rdT v S = some xs) (r : Rel K η S H) (q : VR η v u) : ∃ a us, u = .ref a ∧ SqT K H a us ∧ JR K η (xs.map .one, chkT v xs) (Itt K a) := by
  obtain ⟨a, us, rfl, hq, r2, z⟩ := rdT_ok h r q
  refine ⟨a, us, rfl, SqT.of hq, by simpa using z, fun η' S' H' i it he hR hc hi => ?_, fun η' S' H' he hR hc => ?_⟩
  · have hc : rdT v S' = some xs := by simpa [chkT] using hc
    obtain ⟨a', us', e', hq', r', z'⟩ := rdT_ok hc hR (q.mono he)
    cases e'
    have hi : (xs.map Itm.one)[i]? = some it := hi
    rw [List.getElem?_map] at hi
    cases hx : xs[i]? with
    | none => rw [hx] at hi; cases hi
    | some x =>
      rw [hx] at hi
      cases hi
      obtain ⟨w, hw, rw'⟩ := pget r' hx
      refine ⟨⟨us', w, SqT.of hq', hw⟩, fun y H2 hy => ?_⟩
      obtain ⟨rfl, hy⟩ := hy
      have := (hy us' (SqT.of hq')).symm.trans hw
      cases this
      exact ⟨rfl, rw'⟩
  · have hc : rdT v S' = some xs := by simpa [chkT] using hc
    obtain ⟨a', us', e', hq', r', z'⟩ := rdT_ok hc hR (q.mono he)
    cases e'
    exact ⟨us', SqT.of hq', by rw [← r'.length]; simp⟩
theorem fi_tup {tg : Expr} (h : FE X W e m) : FI X W tg e (iT m) := ⟨_, pi_tup h.run, fun σ H Q h => by
  obtain ⟨η, S, σ0, hR, hS, p⟩ := h
  refine ⟨η, S, σ0, hR, hS, (Po.bind (rel := VR) p).imp fun u H1 ⟨η1, S1, v, e1, hR1, r1, p1⟩ => ?_⟩
  cases e : rdT v S1 with
  | none => rw [e] at p1; exact p1.elim
  | some xs =>
    rw [e] at p1
    obtain ⟨a, us, rfl, hq, j⟩ := JR.tup e hR1 r1
    exact ⟨a, rfl, ⟨us, hq⟩, p1.now hR1 j⟩⟩
theorem chkT_of {v : V} {xs : List V} (h : rdT v S = some xs) : chkT v xs S = true := by simp [chkT, h]
def kIT (r : R V) : R AI := match r with
  | .ok v S1 => match rdT v S1 with
    | some xs => .ok (xs.map .one, chkT v xs) S1
    | none => .bad
  | .exc c S => .exc c S
  | .bad => .bad
theorem iT_eq (m : St → Sto → R V) (σ : St) (S : Sto) : iT m σ S = kIT (m σ S) := by
  unfold iT kIT
  cases m σ S <;> rfl
theorem kIT_ok {v : V} {xs : List V} (h : rdT v S = some xs) : kIT (.ok v S) = .ok (xs.map .one, chkT v xs) S := by simp [kIT, h]
end Fx
/-! Fx: dicts by pairs of a whole number and a tuple of whole numbers: d[k], d[k] = v, k in d, {}. -/
namespace Fx
open PySem PySem.Spec L2
open PyProof.Rows hiding St
variable {K : PySem.W.Frag} {η : List Addr} {S : Sto} {H : Hp}
abbrev NK := Int × List Int
theorem nums_hash (w w' : World) : ∀ ns : List Int, NestedKey.hashes w (ns.map .num) = NestedKey.hashes w' (ns.map .num)
  | [] => rfl
  | n :: ns => by rw [List.map_cons, NestedKey.hashes, NestedKey.hashes, nums_hash w w' ns]; rfl
theorem nk_hash (w w' : World) (k : NK) : NestedKey.hash w (nkOf k) = NestedKey.hash w' (nkOf k) := by
  unfold nkOf
  simp only [NestedKey.hash, NestedKey.hashes, nums_hash w w' k.2]
theorem nums_depth : ∀ ns : List Int, NestedKey.depthAll (ns.map .num) = 0
  | [] => rfl
  | n :: ns => by rw [List.map_cons, NestedKey.depthAll, NestedKey.depth, nums_depth ns]; rfl
theorem nk_depth (k : NK) : (nkOf k).depth ≤ 8 := by
  unfold nkOf
  rw [NestedKey.depth, NestedKey.depthAll, NestedKey.depthAll, NestedKey.depthAll, NestedKey.depth, NestedKey.depth, nums_depth]
  decide
theorem nums_inj : ∀ {a b : List Int}, a.map NestedKey.num = b.map NestedKey.num → a = b
  | [], [], _ => rfl
  | [], _ :: _, e => by simp at e
  | _ :: _, [], e => by simp at e
  | x :: xs, y :: ys, e => by
    rw [List.map_cons, List.map_cons] at e
    injection e with e1 e2
    injection e1 with e1
    rw [e1, nums_inj e2]
theorem nk_inj {a b : NK} (h : nkOf a = nkOf b) : a = b := by
  unfold nkOf at h
  injection h with h
  injection h with h1 h2
  injection h1 with h1
  injection h2 with h2 _
  injection h2 with h2
  exact Prod.ext h1 (nums_inj h2)
theorem nums_all {h : Heap} : ∀ {ns : List Int} {us : List Value}, Vals (ns.map V.int) us → NestedAll h (ns.map .num) us
  | [], _, r => by rw [List.map_nil] at r; cases r; exact .nil
  | n :: ns, _, r => by
    rw [List.map_cons] at r
    cases r with
    | cons h t =>
      rename_i u us
      obtain ⟨tk, rfl⟩ : ∃ tk, u = .int n tk := h
      exact .cons (.int _ _) (nums_all t)
/-- a tracked tuple of a whole number and a tuple of whole numbers is a key -/
theorem nk_is {P : Program} {w : World} {H : Hp} {h : Heap} {k : NK} {b : Addr} (ok : HOk P w H h) (e : NKh H k b) : (nestedKind P w).is h (nkOf k) b := by
  obtain ⟨c, e1, e2⟩ := e
  obtain ⟨_, its, r, o, h1, h2, n, h3⟩ := (show ObjOk P w H h b (.tup [.int k.1, .ref c]) from ok b _ e1)
  obtain ⟨_, its2, r2, o2, g1, g2, n2, g3⟩ := (show ObjOk P w H h c (.tup (k.2.map V.int)) from ok c _ e2)
  refine ⟨?_, nk_depth k⟩
  cases r with
  | cons ra rt =>
    cases rt with
    | cons rb rn =>
      cases rn
      rename_i u v
      obtain ⟨tk, rfl⟩ : ∃ tk, u = .int k.1 tk := ra
      obtain rfl : v = .ref c := rb
      exact .tup h1 h2 h3 (.cons (.int _ _) (.cons (.tup g1 g2 g3 (by simpa using nums_all r2)) .nil))
/-! the dict's entries -/
abbrev EnR (P : Program) : List NkE → List (NestedKey × Addr × Value) → Prop := Paired fun p q => nkOf p.1 = q.1 ∧ p.2.1 = q.2.1 ∧ RelV p.2.2 q.2.2
def nval (xs : List NkE) (k : NK) : Option V := (xs.find? fun x => decide (x.1 = k)).map (·.2.2)
def nput (xs : List NkE) (k : NK) (b : Addr) (v : V) : List NkE := if (nval xs k).isSome = true then xs.map (fun x => if x.1 = k then (x.1, x.2.1, v) else x) else xs ++ [(k, b, v)]
abbrev EnP : List NkE → List (NestedKey × Addr × Value) → Prop := Paired fun p q => nkOf p.1 = q.1 ∧ p.2.1 = q.2.1 ∧ RelV p.2.2 q.2.2
theorem EnP.val {xs : List NkE} {ys : List (NestedKey × Addr × Value)} (r : EnP xs ys) (k : NK) : RelO (nval xs k) ((atKey ys (nkOf k)).map (·.2)) := by
  induction r with
  | nil => exact True.intro
  | @cons p q ps qs h t ih =>
    obtain ⟨h1, _, h2⟩ := h
    by_cases e : p.1 = k
    · have e' : q.1 = nkOf k := by rw [← h1, e]
      have a : nval (p :: ps) k = some p.2.2 := by simp [nval, List.find?_cons, e]
      have b : atKey (q :: qs) (nkOf k) = some q.2 := by simp [atKey, List.find?_cons, e']
      rw [a, b]; exact h2
    · have e' : ¬ q.1 = nkOf k := fun z => e (nk_inj (h1.trans z))
      have a : nval (p :: ps) k = nval ps k := by simp [nval, List.find?_cons, e]
      have b : atKey (q :: qs) (nkOf k) = atKey qs (nkOf k) := by simp [atKey, List.find?_cons, e']
      rw [a, b]; exact ih
theorem EnP.repl {xs : List NkE} {ys : List (NestedKey × Addr × Value)} (r : EnP xs ys) (k : NK) {y : V} {u : Value} (ry : RelV y u) :
    EnP (xs.map fun x => if x.1 = k then (x.1, x.2.1, y) else x) (ys.map (putAt (nkOf k) u)) := by
  induction r with
  | nil => exact .nil
  | @cons p q ps qs h t ih =>
    rw [List.map_cons, List.map_cons]
    refine .cons ?_ ih
    obtain ⟨h1, h2, h3⟩ := h
    unfold putAt
    by_cases e : p.1 = k
    · rw [if_pos e, if_pos (by rw [← h1, e])]; exact ⟨h1, h2, ry⟩
    · rw [if_neg e, if_neg (fun z => e (nk_inj (h1.trans z)))]; exact ⟨h1, h2, h3⟩
theorem EnP.put {xs : List NkE} {ys : List (NestedKey × Addr × Value)} (r : EnP xs ys) (k : NK) (b : Addr) {y : V} {u : Value} (ry : RelV y u) : EnP (nput xs k b y) (storedH ys (nkOf k) b u) := by
  unfold nput storedH
  have e : (nval xs k).isSome = (atKey ys (nkOf k)).isSome := by rw [(r.val k).isSome_eq, Option.isSome_map]
  rw [e]
  by_cases q : (atKey ys (nkOf k)).isSome = true
  · rw [if_pos q, if_pos q]; exact r.repl k ry
  · rw [if_neg q, if_neg q]; exact Paired.snoc r ⟨rfl, rfl, ry⟩
theorem nput_le (xs : List NkE) (k : NK) (b : Addr) (v : V) : (nput xs k b v).length ≤ xs.length + 1 := by
  unfold nput
  split
  · rw [List.length_map]; omega
  · rw [List.length_append]; simp
theorem nput_nk {H : Hp} {xs : List NkE} {k : NK} {b : Addr} {v : V} (h : ∀ x ∈ xs, NKh H x.1 x.2.1) (hb : NKh H k b) : ∀ x ∈ nput xs k b v, NKh H x.1 x.2.1 := fun x hx => by
  unfold nput at hx
  split at hx
  · obtain ⟨y, hy, rfl⟩ := List.mem_map.mp hx
    have := h y hy
    split
    · exact this
    · exact this
  · rcases List.mem_append.mp hx with hx | hx
    · exact h x hx
    · rw [List.mem_singleton.mp hx]; exact hb
section
variable {P : Program} {w : World} {h : Heap} {a : Addr}
theorem dn_rd {xs : List NkE} (ok : HOk P w H h) (e : H a = some (DNo a xs)) (hk : ∀ x ∈ xs, NKh H x.1 x.2.1) : xs.length ≤ sizeLine ∧ (a == sysModules) = false ∧ ∃ ys, EnP xs ys ∧ h.DictOfH (nestedKind P w) a ys := by
  have q : ObjOk P w H h a (DNo a xs) := ok a _ e
  obtain ⟨⟨z, y, ys, r, o, es, ep, h1, h2, h3, h4, h5⟩, _, _⟩ := q
  refine ⟨z, y, ys, r, o, es, ep, h1, h2, h3, h4 P w, fun x hx => ?_, h5⟩
  have all : ∀ {l : List NkE} {m : List (NestedKey × Addr × Value)}, EnP l m → (∀ x ∈ l, NKh H x.1 x.2.1) → ∀ x ∈ m, (nestedKind P w).is h x.1 x.2.1 := by
    intro l m q
    induction q with
    | nil => intro _ x hx; exact nomatch hx
    | @cons p q ps qs hq t ih =>
      intro hl x hx
      rcases List.mem_cons.mp hx with e | hx
      · subst e
        obtain ⟨q1, q2, _⟩ := hq
        rw [← q1, ← q2]
        exact nk_is ok (hl p List.mem_cons_self)
      · exact ih (fun y hy => hl y (List.mem_cons_of_mem _ hy)) x hx
  exact all r hk x hx
theorem dn_st {xs : List NkE} {h1 h2 : Heap} (x : xs.length ≤ sizeLine ∧ (a == sysModules) = false ∧ ∃ ys : List (NestedKey × Addr × Value), Paired (fun (p : NkE) (q : NestedKey × Addr × Value) => nkOf p.1 = q.1 ∧ p.2.1 = q.2.1 ∧ RelV p.2.2 q.2.2) xs ys ∧
    ∃ o es ep, h1.get? a = some o ∧ o.ExactDict ∧ o.data = .dict es ep ∧ (∀ (P : Program) (w : World), es.toList = ys.map (entryOfKey (nestedKind P w))) ∧ (ys.map (·.1)).Nodup) (k : ∀ o, h1.get? a = some o → h2.get? a = some o) :
    xs.length ≤ sizeLine ∧ (a == sysModules) = false ∧ ∃ ys : List (NestedKey × Addr × Value), Paired (fun (p : NkE) (q : NestedKey × Addr × Value) => nkOf p.1 = q.1 ∧ p.2.1 = q.2.1 ∧ RelV p.2.2 q.2.2) xs ys ∧
    ∃ o es ep, h2.get? a = some o ∧ o.ExactDict ∧ o.data = .dict es ep ∧ (∀ (P : Program) (w : World), es.toList = ys.map (entryOfKey (nestedKind P w))) ∧ (ys.map (·.1)).Nodup := by
  obtain ⟨z, y, ys, r, o, es, ep, e1, e2, e3, e4, e5⟩ := x
  exact ⟨z, y, ys, r, o, es, ep, k o e1, e2, e3, e4, e5⟩
theorem dn_new {xs : List NkE} {ys : List (NestedKey × Addr × Value)} {H' : Hp} (z : xs.length ≤ sizeLine) (hd : (a == sysModules) = false) (r : EnP xs ys) (dd : h.DictOfH (nestedKind P w) a ys) : ObjOk P w H' h a (DNo a xs) := by
  obtain ⟨o, es, ep, h1, h2, h3, h4, _, h5⟩ := dd
  refine ⟨⟨z, hd, ys, r, o, es, ep, h1, h2, h3, fun P' w' => ?_, h5⟩, ⟨o, h1⟩, fun g1 g2 x k => dn_st x k⟩
  rw [h4]
  have all : ∀ {l : List NkE} {m : List (NestedKey × Addr × Value)}, EnP l m → m.map (entryOfKey (nestedKind P w)) = m.map (entryOfKey (nestedKind P' w')) := by
    intro l m q
    induction q with
    | nil => rfl
    | @cons p q ps qs hq t ih =>
      rw [List.map_cons, List.map_cons, ih]
      congr 1
      unfold entryOfKey
      have : (nestedKind P w).hash q.1 = (nestedKind P' w').hash q.1 := by rw [← hq.1]; exact nk_hash w w' p.1
      rw [this]
  exact all r
end
/-! the rules -/
section
variable {X : Cx} {W : WX} {a b : Expr} {ma mb : St → Sto → R V} {pos : Pos}
def rNix : R2 := fun x y H Q => ∃ a xs k b v, x = .ref a ∧ y = .ref b ∧ H a = some (DNo a xs) ∧ (∀ x ∈ xs, NKh H x.1 x.2.1) ∧ NKh H k b ∧ nval xs k = some v ∧ Q v H
def rNin (neg : Bool) : R2 := fun y x H Q => ∃ a xs k b, x = .ref a ∧ y = .ref b ∧ H a = some (DNo a xs) ∧ (∀ x ∈ xs, NKh H x.1 x.2.1) ∧ NKh H k b ∧ Q (.bl (if neg = true then !(nval xs k).isSome else (nval xs k).isSome)) H
def rNset : TSet := fun o i v H Q => ∃ a xs k b, o = .ref a ∧ i = .ref b ∧ H a = some (DNo a xs) ∧ (∀ x ∈ xs, NKh H x.1 x.2.1) ∧ NKh H k b ∧ xs.length < sizeLine ∧ Q (upd H a (DNo a (nput xs k b v)))
theorem nk_room {A : Around} (hu : A.units + 65 < cLine) : A.in1.units + 8 < cLine := by
  have : A.in1.units ≤ A.units + 1 := by first | exact Nat.le_refl _ | (unfold Around.in1; simp)
  omega
theorem pe_nix (hu : X.A.units + 65 < cLine) {ta tb : TE} (ho : PE X a ta) (hi : PE X b tb) (hs : NoSl b) : PE X (.Subscript a b pos) (tOp rNix ta tb) := by
  refine ⟨fun pins s σ H Q I h => ?_⟩
  refine subD_of PySem.F.slot_dict_getitem.lookup hs (thn (ho.run pins s σ H _ I h) fun u s1 ⟨x, H1, I1, rx, q1⟩ => thn (hi.run pins s1 σ H1 _ I1 q1) fun iv s2 ⟨y, H2, I2, ry, c, xs, k, d, v, ex, ey, e, hk, hb, hv, q2⟩ => ?_)
  subst ex ey
  obtain rfl : u = Value.ref c := rx
  obtain rfl : iv = Value.ref d := ry
  obtain ⟨z, hd, ys, rel, dd⟩ := dn_rd I2.hok e hk
  refine ⟨dd.typeIs, ?_⟩
  obtain ⟨w', hw, rw'⟩ := RelO.some_of (v := v) (o := (atKey ys (nkOf k)).map (·.2)) (by rw [← hv]; exact rel.val k)
  obtain ⟨p, hp, hp2⟩ := Option.map_eq_some_iff.mp hw
  refine wpAny_getItem_heap (nk_room hu) (nk_is I2.hok hb) dd hp ?_
  rw [hp2]
  exact ⟨v, H2, I2.tok _, rw', q2⟩
theorem op_nin (hu : X.A.units + 65 < cLine) : OpR X (compareOp .In) (rNin false) := by
  intro pins s σ H x y v u Q I rx ry ⟨c, xs, k, d, ex, ey, e, hk, hb, q⟩
  subst ex ey
  obtain rfl : u = Value.ref c := ry
  obtain rfl : v = Value.ref d := rx
  obtain ⟨z, hd, ys, rel, dd⟩ := dn_rd I.hok e hk
  refine wpAny_in_heap (nk_room hu) (nk_is I.hok hb) hd dd ?_
  have g := (rel.val k).isSome_eq
  rw [Option.isSome_map] at g
  rw [← g]
  exact ⟨.bl (nval xs k).isSome, H, I.tok _, rfl, q⟩
theorem op_nnin (hu : X.A.units + 65 < cLine) : OpR X (compareOp .NotIn) (rNin true) := by
  intro pins s σ H x y v u Q I rx ry ⟨c, xs, k, d, ex, ey, e, hk, hb, q⟩
  subst ex ey
  obtain rfl : u = Value.ref c := ry
  obtain rfl : v = Value.ref d := rx
  obtain ⟨z, hd, ys, rel, dd⟩ := dn_rd I.hok e hk
  refine wpAny_notIn_heap (nk_room hu) (nk_is I.hok hb) hd dd ?_
  have g := (rel.val k).isSome_eq
  rw [Option.isSome_map] at g
  rw [← g]
  exact ⟨.bl (!(nval xs k).isSome), H, I.tok _, rfl, q⟩
theorem set_dn (hu : X.A.units + 65 < cLine) : PSet X rNset := by
  intro pins s σ H o i v ov iv u Q I ro ri rv ⟨c, xs, k, d, ex, ey, e, hk, hb, hl, q⟩
  subst ex ey
  cases (show ov = Value.ref c from ro)
  cases (show iv = Value.ref d from ri)
  obtain ⟨z, hd, ys, rel, dd⟩ := dn_rd I.hok e hk
  have hz : ys.length ≤ sizeLine := by rw [← Paired.length rel]; exact z
  refine wpAny_setItem_heap (hsz := hz) (nk_room hu) (nk_is I.hok hb) dd fun h' dd' hs => ⟨_, ?_, q⟩
  have he : ∃ q, h'.get? c = some q := let ⟨q, _, _, hq, _⟩ := dd'; ⟨q, hq⟩
  exact d_write I (by rw [e]; exact True.intro) hs he (dn_new (by have := nput_le xs k d v; omega) hd (rel.put k d rv) dd')
theorem pe_dnewN : PE X (.Dict [] [] pos) (fun _ H Q => ∀ p, H p = none → Q (.ref p) (upd H p (DNo p []))) := ⟨fun pins s σ H Q I h =>
  wpAny_Dict_empty ⟨.ref s.heap.objs.size, _, I.laid (a := s.heap.objs.size) (o := DNo s.heap.objs.size []) (t' := s.toks) (fun _ _ q => Heap.get?_push_of_some _ q) (Nat.le_refl _)
    (dn_new (P := X.prog) (w := X.w) (Nat.zero_le _) (beq_eq_false_iff_ne.mpr (Ne.symm (Nat.ne_of_lt I.big))) .nil (Heap.DictOfH.new s.heap)), rfl, h _ (I.hok.fresh (Nat.le_refl _))⟩⟩
end
/-! over the store -/
section
variable {X : Cx} {W : WX} {a b : Expr} {ma mb : St → Sto → R V} {pos : Pos}
def rdN (x : V) (S : Sto) : Option (List (NK × V)) := match x with
  | .ref n => match S[n]? with
    | some (.dN kvs) => some kvs
    | _ => none
  | _ => none
def keyN (y : V) (S : Sto) : Option NK := match rdT y S with
  | some [.int n, c] => match rdT c S with
    | some ws => (allI ws).map fun ns => (n, ns)
    | none => none
  | _ => none
theorem VsR_ints : ∀ {ns : List Int} {us : List V}, VsR η (ns.map V.int) us → us = ns.map V.int
  | [], _, .nil => rfl
  | n :: ns, _, .cons q t => by
    rw [List.map_cons, VsR_ints t]
    have q : _ = V.int n := q
    rw [q]
theorem keyN_ok {y v : V} {k : NK} (h : keyN y S = some k) (hR : Rel K η S H) (r : VR η y v) : ∃ b, v = .ref b ∧ NKh H k b := by
  unfold keyN at h
  split at h
  · rename_i n c e
    split at h
    · rename_i ws e2
      obtain ⟨ns, hn, rfl⟩ := Option.map_eq_some_iff.mp h
      obtain ⟨a, us, rfl, hq, r2, z⟩ := rdT_ok e hR r
      cases r2 with
      | cons ra rt =>
        cases rt with
        | cons rb rn =>
          cases rn
          rename_i u w
          have ra : u = .int n := ra
          obtain ⟨a2, us2, rfl, hq2, r3, z2⟩ := rdT_ok e2 hR rb
          rw [allI_eq hn] at r3
          subst ra
          exact ⟨a, rfl, a2, hq, by rw [hq2, VsR_ints r3]⟩
    · cases h
  · cases h
abbrev KPN (η : List Addr) : List (NK × V) → List NkE → Prop := Paired fun p q => p.1 = q.1 ∧ VR η p.2 q.2.2
theorem rdN_ok {x u : V} {kvs : List (NK × V)} (h : rdN x S = some kvs) (hR : Rel K η S H) (r : VR η x u) : ∃ (n : Nat) (a : Addr) (xs : List NkE), x = .ref n ∧ η[n]? = some a ∧ S[n]? = some (.dN kvs) ∧ u = .ref a ∧ H a = some (DNo a xs) ∧ KPN η kvs xs ∧ (∀ x ∈ xs, NKh H x.1 x.2.1) ∧ kvs.length ≤ sizeLine := by
  unfold rdN at h
  split at h
  · rename_i n
    split at h
    · rename_i kvs' e
      cases h
      obtain ⟨a, ea, rfl⟩ := r
      obtain ⟨z, xs, e2, p, k⟩ := hR.ob n a _ ea e
      exact ⟨n, a, xs, rfl, ea, e, rfl, e2, p, k, z⟩
    · cases h
  · cases h
def nvalV (kvs : List (NK × V)) (k : NK) : Option V := (kvs.find? fun p => decide (p.1 = k)).map (·.2)
def nputV (kvs : List (NK × V)) (k : NK) (v : V) : List (NK × V) := if (nvalV kvs k).isSome = true then kvs.map (fun p => if p.1 = k then (p.1, v) else p) else kvs ++ [(k, v)]
theorem KPN.val {kvs : List (NK × V)} {xs : List NkE} (h : KPN η kvs xs) (k : NK) : (∃ v u, nvalV kvs k = some v ∧ nval xs k = some u ∧ VR η v u) ∨ (nvalV kvs k = none ∧ nval xs k = none) := by
  induction h with
  | nil => exact .inr ⟨rfl, rfl⟩
  | @cons p q ps qs h t ih =>
    by_cases e : p.1 = k
    · have e' : q.1 = k := by rw [← h.1, e]
      exact .inl ⟨p.2, q.2.2, by simp [nvalV, List.find?_cons, e], by simp [nval, List.find?_cons, e'], h.2⟩
    · have e' : ¬ q.1 = k := fun z => e (h.1.trans z)
      have a : nvalV (p :: ps) k = nvalV ps k := by simp [nvalV, List.find?_cons, e]
      have b : nval (q :: qs) k = nval qs k := by simp [nval, List.find?_cons, e']
      rw [a, b]; exact ih
theorem KPN.repl {kvs : List (NK × V)} {xs : List NkE} (h : KPN η kvs xs) (k : NK) {v u : V} (r : VR η v u) : KPN η (kvs.map fun p => if p.1 = k then (p.1, v) else p) (xs.map fun x => if x.1 = k then (x.1, x.2.1, u) else x) := by
  induction h with
  | nil => exact .nil
  | @cons p q ps qs h t ih =>
    rw [List.map_cons, List.map_cons]
    refine .cons ?_ ih
    by_cases e : p.1 = k
    · rw [if_pos e, if_pos (by rw [← h.1, e])]; exact ⟨h.1, r⟩
    · rw [if_neg e, if_neg (fun z => e (h.1.trans z))]; exact h
theorem KPN.put {kvs : List (NK × V)} {xs : List NkE} (h : KPN η kvs xs) (k : NK) (b : Addr) {v u : V} (r : VR η v u) : KPN η (nputV kvs k v) (nput xs k b u) := by
  unfold nputV nput
  have e : (nvalV kvs k).isSome = (nval xs k).isSome := by
    rcases h.val k with ⟨v, u, h1, h2, _⟩ | ⟨h1, h2⟩
    · rw [h1, h2]; rfl
    · rw [h1, h2]
  rw [e]
  by_cases q : (nval xs k).isSome = true
  · rw [if_pos q, if_pos q]; exact h.repl k r
  · rw [if_neg q, if_neg q]; exact papp h (.cons ⟨rfl, r⟩ .nil)
theorem nputV_le (kvs : List (NK × V)) (k : NK) (v : V) : (nputV kvs k v).length ≤ kvs.length + 1 := by
  unfold nputV
  split
  · rw [List.length_map]; omega
  · rw [List.length_append]; simp
def dixN : V → V → Sto → R V := fun x y S => match rdN x S with
  | some kvs => match keyN y S with
    | some k => match nvalV kvs k with
      | some v => .ok v S
      | none => .bad
    | none => .bad
  | none => .bad
theorem dixN_ok : OpM X rNix dixN := by
  intro W σ η S H x y u v Q hR hx hy p
  unfold dixN at p
  cases e : rdN x S with
  | none => rw [e] at p; exact p.elim
  | some kvs =>
    obtain ⟨n, a, xs, rfl, ea, ho, rfl, hu, kp, hk, z⟩ := rdN_ok e hR hx
    rw [e] at p
    cases ek : keyN y S with
    | none => rw [ek] at p; exact p.elim
    | some k =>
      obtain ⟨b, rfl, hb⟩ := keyN_ok ek hR hy
      rw [ek] at p
      dsimp only at p
      rcases kp.val k with ⟨v, w, h1, h2, r⟩ | ⟨h1, h2⟩
      · rw [h1] at p
        exact ⟨a, xs, k, b, w, rfl, rfl, hu, hk, hb, h2, p.now hR r⟩
      · rw [h1] at p; exact p.elim
theorem fe_dixN (hu : X.A.units + 65 < cLine) (ha : FE X W a ma) (hb : FE X W b mb) (hs : NoSl b := by intro _ _; rfl) : FE X W (.Subscript a b pos) (eO dixN ma mb) :=
  ⟨PE.wk (pe_nix hu ha.run hb.run hs) fun σ H Q h => lf_bin dixN_ok h⟩
def dinN (neg : Bool) : V → V → Sto → R V := fun y x S => match rdN x S with
  | some kvs => match keyN y S with
    | some k => .ok (.bl (if neg = true then !(nvalV kvs k).isSome else (nvalV kvs k).isSome)) S
    | none => .bad
  | none => .bad
theorem dinN_ok {neg : Bool} : OpM X (rNin neg) (dinN neg) := by
  intro W σ η S H y x v u Q hR hy hx p
  unfold dinN at p
  cases e : rdN x S with
  | none => rw [e] at p; exact p.elim
  | some kvs =>
    obtain ⟨n, a, xs, rfl, ea, ho, rfl, hu, kp, hk, z⟩ := rdN_ok e hR hx
    rw [e] at p
    cases ek : keyN y S with
    | none => rw [ek] at p; exact p.elim
    | some k =>
      obtain ⟨b, rfl, hb⟩ := keyN_ok ek hR hy
      rw [ek] at p
      refine ⟨a, xs, k, b, rfl, rfl, hu, hk, hb, p.now hR ?_⟩
      rcases kp.val k with ⟨v, w, h1, h2, r⟩ | ⟨h1, h2⟩
      · rw [h1, h2]; rfl
      · rw [h1, h2]; rfl
theorem fe_dinN (hu : X.A.units + 65 < cLine) (ha : FE X W a ma) (hb : FE X W b mb) (hk : behindInMarks .In b = false := by rfl) : FE X W (.Compare a [.In] [b] pos) (eO (dinN false) ma mb) := fe_cmp (op_nin hu) dinN_ok ha hb hk
theorem fe_dninN (hu : X.A.units + 65 < cLine) (ha : FE X W a ma) (hb : FE X W b mb) (hk : behindInMarks .NotIn b = false := by rfl) : FE X W (.Compare a [.NotIn] [b] pos) (eO (dinN true) ma mb) := fe_cmp (op_nnin hu) dinN_ok ha hb hk
theorem ft_dinN (hu : X.A.units + 65 < cLine) (ha : FE X W a ma) (hb : FE X W b mb) (hk : behindInMarks .In b = false := by rfl) : FT X W (.Compare a [.In] [b] pos) (tV (eO (dinN false) ma mb)) := ft_cmp (op_nin hu) dinN_ok ha hb hk
theorem ft_dninN (hu : X.A.units + 65 < cLine) (ha : FE X W a ma) (hb : FE X W b mb) (hk : behindInMarks .NotIn b = false := by rfl) : FT X W (.Compare a [.NotIn] [b] pos) (tV (eO (dinN true) ma mb)) := ft_cmp (op_nnin hu) dinN_ok ha hb hk
def setN : V → V → V → Sto → R Unit := fun o i v S => match o with
  | .ref n => match rdN (.ref n) S with
    | some kvs => match keyN i S with
      | some k => if kvs.length < lim then .ok () (S.set n (.dN (nputV kvs k v))) else .bad
      | none => .bad
    | none => .bad
  | _ => .bad
theorem dn_ne_tup {a : Addr} {xs : List NkE} {us : List V} : DNo a xs ≠ .tup us := fun z => by unfold DNo at z; cases z
theorem NKh.upd {H : Hp} {a : Addr} {xs ys : List NkE} {k : NK} {b : Addr} (h : NKh H k b) (e : H a = some (DNo a xs)) : NKh (L2.upd H a (DNo a ys)) k b := by
  obtain ⟨c, h1, h2⟩ := h
  refine ⟨c, ?_, ?_⟩
  · rw [upd_ne (fun z => by rw [z, e] at h1; injection h1 with h1; exact dn_ne_tup h1)]; exact h1
  · rw [upd_ne (fun z => by rw [z, e] at h2; injection h2 with h2; exact dn_ne_tup h2)]; exact h2
theorem setN_ok : SetM X rNset setN := by
  intro W σ η S H o i v uo ui uv Q hR ho hi hv p
  unfold setN at p
  split at p
  · rename_i n
    split at p
    · rename_i kvs e
      obtain ⟨n', a, xs, e', ea, hS, rfl, hu, kp, hk, z⟩ := rdN_ok e hR ho
      cases e'
      split at p
      · rename_i k ek
        obtain ⟨b, rfl, hb⟩ := keyN_ok ek hR hi
        split at p
        · rename_i hl
          have hl' : kvs.length < sizeLine := hl
          have hz : (nputV kvs k v).length ≤ sizeLine := by have := nputV_le kvs k v; omega
          refine ⟨a, xs, k, b, rfl, rfl, hu, hk, hb, by rw [← kp.length]; exact hl', ?_⟩
          exact p η _ () (Ext.set hR ea hS rfl) (hR.set ea hS rfl ⟨hz, _, upd_same, kp.put k b hv, fun x hx => (nput_nk hk hb x hx).upd hu⟩ rfl) trivial
        · exact p.elim
      · exact p.elim
    · exact p.elim
  · exact p.elim
def eDnewN : St → Sto → R V := fun _ S => alloc (.dN []) S
theorem fe_dnewN : FE X W (.Dict [] [] pos) eDnewN := ⟨PE.wk pe_dnewN fun σ H Q h => by
  obtain ⟨η, S, σ0, hR, hS, p⟩ := h
  exact fun q hq => p (η ++ [q]) _ _ (Ext.new hR hq _) (hR.new hq (o := .dN []) ⟨Nat.zero_le _, [], upd_same, .nil, fun _ h => nomatch h⟩ rfl) (VR.new hR)⟩
end
/-! a < b by data -/
section
variable {X : Cx} {W : WX} {a b : Expr} {ma mb : St → Sto → R V} {pos apos cpos : Pos}
def rLtD (K : PySem.W.Frag) : R2 := fun x y H Q => ∃ d e, Dp K H x d ∧ Dp K H y e ∧ SeqAt.shaped d = true ∧ PySem.W.alike d e = true ∧ d ≠ .none ∧ Q (.bl (PySem.W.dataLt d e)) H
theorem op_ltD (hu : X.A.units + 64 < cLine) : OpR X (compareOp .Lt) (rLtD X.K) := by
  intro pins s σ H x y v u Q I rx ry h
  obtain ⟨d, e, hd, he, sd, ha, hn, q⟩ := h
  obtain ⟨as, r1⟩ := Dp.reads I d x v hd rx
  obtain ⟨bs, r2⟩ := Dp.reads I e y u he ry
  have hdep : d.depth ≤ 64 := by
    unfold SeqAt.shaped at sd
    rw [Bool.and_eq_true, decide_eq_true_eq] at sd
    exact sd.2
  exact PySem.W.lt_data r1 r2 ha hn (by omega) ⟨.bl _, H, I, rfl, q⟩
def isNonD : PyData → Bool
  | .none => true
  | _ => false
def ltDB (x y : V) (S : Sto) : Option Bool := match toD 5 S x, toD 5 S y with
  | some d, some e => if SeqAt.shaped d = true ∧ PySem.W.alike d e = true ∧ isNonD d = false then some (PySem.W.dataLt d e) else none
  | _, _ => none
def ltDM : V → V → Sto → R V := fun x y S => match ltDB x y S with
  | some b => .ok (.bl b) S
  | none => .bad
theorem ltDM_ok : OpM X (rLtD X.K) ltDM := by
  intro W σ η S H x y u v Q hR hx hy p
  unfold ltDM ltDB at p
  split at p
  · rename_i b hb
    split at hb
    · rename_i d e hd he
      split at hb
      · rename_i hs
        cases hb
        exact ⟨d, e, toD_ok hR 5 x u d hd hx, toD_ok hR 5 y v e he hy, hs.1, hs.2.1, fun z => (by rw [z] at hs; exact absurd hs.2.2 (by decide)), p.now hR rfl⟩
      · cases hb
    · cases hb
  · exact p.elim
theorem ltDM_tabs {S : Sto} {x y : V} {T U : List (List Int)} (hx : toD 5 S x = some (PySem.W.Datum.toD T)) (hy : toD 5 S y = some (PySem.W.Datum.toD U)) (hs : SeqAt.shaped (PySem.W.Datum.toD T) = true) : ltDM x y S = .ok (.bl (PySem.W.listLt T U)) S := by
  have h1 := PySem.W.DatumOrd.alike T U
  have h2 : isNonD (PySem.W.Datum.toD T) = false := rfl
  have h3 : PySem.W.dataLt (PySem.W.Datum.toD T) (PySem.W.Datum.toD U) = PySem.W.listLt T U := PySem.W.DatumOrd.lt_eq T U
  unfold ltDM ltDB
  rw [hx, hy]
  simp only [hs, h1, h2, h3, and_self, if_true]
end
/-! min(t) of a tuple of whole numbers -/
section
variable {X : Cx} {W : WX} {a b : Expr} {ma mb : St → Sto → R V} {pos apos cpos : Pos}
theorem minOf_eq (x : Int) (xs : List Int) : PySem.W.minOf x xs = minL (x :: xs) := by
  show xs.foldl _ x = xs.foldl min x
  congr 1
  funext a y
  have e : PySem.W.DatumOrd.lt y a = decide (y < a) := rfl
  rw [e]
  by_cases h : y < a
  · simp only [h, decide_true, if_true]; omega
  · simp only [h, decide_false, Bool.false_eq_true, if_false]; omega
theorem dp_ints {H : Hp} : ∀ ns : List Int, DpAll K H (ns.map V.int) (ns.map PyData.int)
  | [] => .nil
  | n :: ns => .cons (.int n) (dp_ints ns)
def rMinT (K : PySem.W.Frag) : List V → Hp → VK → Prop := fun vs H Q => ∃ (a : Addr) (ns : List Int), vs = [V.ref a] ∧ SqT K H a (ns.map V.int) ∧ 0 < ns.length ∧ Q (.int (minL ns)) H
theorem cr_minT (hc : X.calm = true) (hu : X.A.units + 65 < cLine) : CallR X (.builtin "min") (rMinT X.K) := by
  intro pins s σ H vs us Q I r h
  obtain ⟨a, ns, rfl, hs, hne, q⟩ := h
  obtain ⟨its, rv, hl, _⟩ := I.tuple hs
  rw [Vals.ref1 r]
  cases ns with
  | nil => cases hne
  | cons x xs =>
    obtain ⟨as, ra⟩ := Dp.readsAll I ((x :: xs).map PyData.int) _ its (dp_ints (x :: xs)) rv
    have hd : PySem.W.Datum.depth Int ≤ 64 := by decide
    have hu2 : X.A.units + 1 + PySem.W.Datum.depth Int < cLine := by omega
    refine PySem.W.min_tuple_datum (α := Int) (x := x) (xs := xs) (I.ok.hd hc) (show s.heap.IsTuple a its.toArray from hl) ⟨as, ra⟩ hu2 fun i v h' tk hi hv hk => ?_
    obtain ⟨bs, rb⟩ := hv
    rw [minOf_eq] at rb
    have rb : Reads h' v (.int (minL (x :: xs))) bs := rb
    cases rb with
    | int t => exact ⟨.int _, H, I.kept hk, ⟨_, rfl⟩, q⟩
def minTM : List V → Sto → R V := fun vs S => match vs with
  | [x] => match (rdT x S).bind allI with
    | some ns => if 0 < ns.length then .ok (.int (minL ns)) S else .bad
    | none => .bad
  | _ => .bad
theorem minTM_ok : CallM X (rMinT X.K) minTM := by
  intro W σ η S H xs us Q hR hx p
  unfold minTM at p
  split at p
  · rename_i x
    obtain ⟨u, rfl, r⟩ := VsR.one hx
    split at p
    · rename_i ns h
      split at p
      · rename_i h0
        obtain ⟨ys, e, h⟩ := Option.bind_eq_some_iff.mp h
        have e2 := allI_eq h
        subst e2
        obtain ⟨a, us, rfl, hq, r2, _⟩ := rdT_ok e hR r
        rw [VsR.ints r2] at hq
        exact ⟨a, ns, rfl, SqT.of hq, h0, p.now hR rfl⟩
      · exact p.elim
    · exact p.elim
  · exact p.elim
theorem minTM_at {S : Sto} {x : Nat} {ns : List Int} (h : S[x]? = some (.tup (ns.map V.int))) (h0 : 0 < ns.length) : minTM [.ref x] S = .ok (.int (minL ns)) S := by
  have e : (rdT (.ref x) S).bind allI = some ns := by
    rw [show rdT (.ref x) S = some (ns.map V.int) by simp [rdT, h]]
    simp [allI_map]
  simp only [minTM, e, h0, if_true]
end
end Fx
/-! Fx: defs that are handed the error that a suite holds, and ask for its class alone. -/
namespace Fx
open PySem PySem.Spec L2
open PyProof.Rows hiding St
/-- tuples of classes laid beside -/
inductive Sd : Hp → Hp → Prop
  | refl (H : Hp) : Sd H H
  | step {H H1 : Hp} {q : Addr} (o : HO) (h : Sd H H1) (hq : H1 q = none) : Sd H (upd H1 q o)
theorem Sd.cons {H H2 : Hp} {q : Addr} {o : HO} (hq : H q = none) (h : Sd (upd H q o) H2) : Sd H H2 := by
  generalize e : upd H q o = H1 at h
  induction h with
  | refl => rw [← e]; exact .step o (.refl H) hq
  | step o2 h hq2 ih => exact .step o2 ih hq2
theorem Sd.go {K : PySem.W.Frag} {η : List Addr} {S : Sto} {H H1 : Hp} (h : Sd H H1) (r : Rel K η S H) : Ext η H η H1 ∧ Rel K η S H1 := by
  induction h with
  | refl => exact ⟨Ext.refl _ _, r⟩
  | step o h hq ih =>
    obtain ⟨e, r1⟩ := ih
    exact ⟨e.trans (Ext.side hq o), r1.side hq o⟩
structure FnX (P : Program) (w : World) (K : PySem.W.Frag) (mg : Str → Option Value) (base : Heap) (k : Nat) (f : Addr) (fd : FuncData) (x0 : Str) (cs : List String) (g : String → Bool) : Prop where
  run : ∀ (A : Around) (outer : List Env) (s : Shared) (H : Hp) (args : Args) (Q : VK) (p : Addr × Obj) (c : String) (C : Addr), L2H.RoomH k A → c ∈ cs → mg (Str.ofString c) = some (.ref C) → Zc (.ref C) none p.2 → (∃ vs, p.2.data = .fields vs) → L2H.PinOk outer H s p → Env0 P w K mg base A outer s H → BindsTo s fd args [(x0, .ref p.1)] →
    (∀ H1, Sd H H1 → Q (.bl (g c)) H1) → codeAny (model P w) A (.call (.ref f) args) (CR C8.CX0 outer P w H s Q C8.E0) s
/-- a test in such a def -/
structure FXB (X : Cx) (p : Addr × Obj) (cs : List String) (e : Expr) (g : String → Bool) : Prop where
  run : ∀ (c : String) (C : Addr), c ∈ cs → X.mg (Str.ofString c) = some (.ref C) → Zc (.ref C) none p.2 → (∃ vs, p.2.data = .fields vs) → PE X e fun σ H Q => σ[0]? = some (some (.ref p.1)) ∧ ∀ H1, Sd H H1 → Q (.bl (g c)) H1
section
variable {X : Cx} {p : Addr × Obj} {cs : List String} {e e2 : Expr} {g g2 : String → Bool} {pos pos2 pos3 pos4 p1 p2 p3 : Pos}
theorem call_isET' {a D : Addr} {oe : Obj} (hp : (a, oe) ∈ X.pn) (C : ExcC X.K D) (hz : Zc (.ref D) none oe) (hf : ∃ vs, oe.data = .fields vs) : CallR X (.builtin "isinstance") (rIsET X.K D a) := by
  intro pins s σ H xs us Q I r h
  obtain ⟨tp, Ds, b, rfl, hT, e, q⟩ := h
  obtain ⟨u1, u2, rfl, r1, r2⟩ := vals2 r
  cases (show u1 = Value.ref a from r1)
  cases (show u2 = Value.ref tp from r2)
  obtain ⟨hget, _⟩ := I.pin (a, oe) (List.mem_append.mpr (.inl hp))
  obtain ⟨_, its, rv, o, h1, h2, n, h3⟩ := (show ObjOk _ _ H s.heap tp (.tup (Ds.map V.ref)) from I.hok tp _ hT)
  have e3 := refs_vals rv
  subst e3
  obtain ⟨oc, od, dt, sl⟩ := o
  simp only at h2 h3
  subst h2 h3
  exact PySem.W.kia_tup (PySem.W.handS_kitx_exc C.hg C.hk C.hs C.hd C.ha C.hn C.ht C.hm) I.kIn (excAt hz hf hget) h1 e (fun z => nomatch z) fun tk => ⟨.bl b, H, I.kept (t' := tk) fun _ _ z => z, rfl, q⟩
theorem fxb_isT {n : Str} {es : List Expr} {ds : List String} {k : Nat} (hp : p ∈ X.pn) (hE : ExCs X.K X.mg cs) (hN : X.N[0]? = some n) (hv : Vis X.env.scope n) (hg : Gl X "isinstance") (hm : X.mg "isinstance" = none) (hb : bootBuiltins "isinstance" = some (.builtin "isinstance")) (h : NmsC X cs es ds) (hl : ds.length ≤ 1000)
    (hd : (n == ("__debug__" : Str)) = false := by decide) (hcd : (n == ("__classdict__" : Str)) = false := by decide)
    (he : starEach (.Name n p1 :: [.Tuple es k p2]) X.env = (false, eval (.Name n p1) X.env) :: starEach [.Tuple es k p2] X.env := by rfl) (he2 : starEach [.Tuple es k p2] X.env = (false, eval (.Tuple es k p2) X.env) :: starEach [] X.env := by rfl)
    (hpl : (backTo pos (starEach [.Tuple es k p2] X.env)).any (·.1) = false := by rfl) :
    FXB X p cs (.Call (.Name "isinstance" p3) [.Name n p1, .Tuple es k p2] [] pos) (fAny ds) :=
  ⟨fun c C h1 h2 h3 h4 => by
    obtain ⟨Ds, t, q1, q2, q3, q4⟩ := h.pa
    refine PE.wk (pe_callB (call_isET' (a := p.1) (oe := p.2) hp (hE c h1 C h2) h3 h4) hg hm hb (pa_cons (pe_var (i := 0) hN hv hd hcd) (pa_cons (pe_tup q1) pa_nil he2) he) (by decide) (by decide) he hpl) fun σ H Q hh => ?_
    obtain ⟨ha, k⟩ := hh
    refine ⟨.ref p.1, ha, q2 σ H _ ⟨by rw [List.length_map, q3, sizeLine_eq]; omega, fun q hq => ?_⟩⟩
    exact ⟨q, Ds, _, rfl, upd_same, q4 c h1 C h2, k _ (.step _ (.refl _) hq)⟩⟩
theorem fxb_not (h : FXB X p cs e g) : FXB X p cs (.UnaryOp .Not e pos) (fun c => !g c) :=
  ⟨fun c C h1 h2 h3 h4 => PE.wk (pe_not (h.run c C h1 h2 h3 h4)) fun σ H Q hh => ⟨hh.1, fun H1 s => ⟨g c, rfl, hh.2 H1 s⟩⟩⟩
/-- if e: return b; return e2 -/
theorem fxs_two {b : Bool} {j : Nat} (h : FXB X p cs e g) (h2 : FXB X p cs e2 g2) (he : ∀ whole, isTrue e X.env whole = (do let v ← whole; standAt e.pos; holding [v] (truthy v)) := by intro _; rfl) {c : String} {C : Addr} (q1 : c ∈ cs) (q2 : X.mg (Str.ofString c) = some (.ref C)) (q3 : Zc (.ref C) none p.2) (q4 : ∃ vs, p.2.data = .fields vs) :
    ∃ t, PSs X [.If e [.Return (some (.Constant (.bool b) j pos)) pos2] [] pos3, .Return (some e2) pos4] t ∧ ∀ (D : Ends) (σ : St) (H : Hp), σ[0]? = some (some (.ref p.1)) → (∀ H1, Sd H H1 → D.rt (.bl (if g c = true then b else g2 c)) H1) → t D σ H := by
  refine ⟨_, pss_cons (ps_if (pt_val (h.run c C q1 q2 q3 q4) he) (pss_one (ps_ret pe_bl)) pss_nil) (pss_one (ps_ret (h2.run c C q1 q2 q3 q4))), fun D σ H ha k => ?_⟩
  refine ⟨ha, fun H1 s1 => ⟨g c, rfl, ?_⟩⟩
  cases hg : g c with
  | true =>
    rw [hg] at k
    exact k H1 s1
  | false =>
    rw [hg] at k
    refine ⟨ha, fun H2 s2 => k H2 ?_⟩
    clear k hg
    induction s2 with
    | refl => exact s1
    | step o h hq ih => exact .step o ih hq
theorem fnx_ok {P : Program} {w : World} {K : PySem.W.Frag} {mg : Str → Option Value} {base : Heap} {x qual : Str} {st : Stmt} {f : Addr} {fd : FuncData} {n : Str} {k : Nat} {b : Bool} {j : Nat} (F : Fun K x qual st f fd) (S : FnScope [n] [n] (defScope st))
    (hst : defBody st = [.If e [.Return (some (.Constant (.bool b) j pos)) pos2] [] pos3, .Return (some e2) pos4])
    (hb : ∀ (cdv : Value) (A : Around) (outer : List Env) (s : Shared) (H : Hp) (p : Addr × Obj), FXB (L2H.cxH C8.CX0 P w K mg base [n] qual (defScope st) f cdv A outer s H C8.E0 p) p cs e g ∧ FXB (L2H.cxH C8.CX0 P w K mg base [n] qual (defScope st) f cdv A outer s H C8.E0 p) p cs e2 g2 ∧
      ∀ whole, isTrue e (L2H.cxH C8.CX0 P w K mg base [n] qual (defScope st) f cdv A outer s H C8.E0 p).env whole = (do let v ← whole; standAt e.pos; holding [v] (truthy v))) :
    FnX P w K mg base (k + 1) f fd n cs (fun c => if g c = true then b else g2 c) := by
  obtain ⟨⟨oc, od, kV, doc, pm, an, cdv, ct, osl, rfl, lk, hcd⟩, _⟩ := F
  refine ⟨fun A outer s H args Q p c C hr q1 q2 q3 q4 hpin e0 hbd hQ => ?_⟩
  have KX : K.In s.heap := e0.mod.kin.keeps fun b o e => (e0.bs b o e).1
  have lim : s.heap.NoLimit := e0.mod.nolimit.keeps fun b o e => (e0.bs b o e).1
  have hkind : ∀ y ∈ [n].zip [Value.ref p.1], (defScope st).names.lookup y.1 = some .local ∨ ((defScope st).names.lookup y.1 = some .cell ∧ ((cellsFrom (s.heap.objs.size + 1) (defScope st).names []).lookup y.1).isSome = true) := fun ⟨n, v⟩ hy => by
    rcases S.par n (List.of_mem_zip hy).1 with q | q
    · exact .inl q
    · exact .inr ⟨q, PySem.W.cellsFrom_some _ _ _ (.inl q)⟩
  refine codeAny_call_function hr.depth (KX _ _ lk) rfl S.co S.gen rfl (PySem.W.codeRec_of KX hcd) (hbd _ _ _ _ ?_)
  refine wpAny_newFunctionEnv_cells S.kind hkind fun env he s1 x => ?_
  subst he
  refine ⟨lim.keeps x.toInCall.keep, codeAny_func ?_⟩
  obtain ⟨b1, b2, b3⟩ := hb cdv A outer s H p
  obtain ⟨t, ht, hq⟩ := fxs_two (j := j) (pos := pos) (pos2 := pos2) (pos3 := pos3) (pos4 := pos4) (b := b) b1 b2 b3 q1 q2 q3 q4
  have I : Inv (L2H.cxH C8.CX0 P w K mg base [n] qual (defScope st) f cdv A outer s H C8.E0 p) [] (L2.start [n] [V.ref p.1]) H s1 := L2H.inv_startH (us := [Value.ref p.1]) S hpin e0 rfl (.cons rfl .nil) x
  rw [← hst] at ht
  refine wpAny_mono (ht.run [] s1 (L2.start [n] [V.ref p.1]) H { nx := fun _ H' => Q .non H', rt := Q } I (hq _ _ _ rfl hQ)) (fun fl s' hs => ?_) fun e s' hs => hs
  have fin : ∀ {σ' : St} {H' : Hp} {v : V} {u : Value}, Inv (L2H.cxH C8.CX0 P w K mg base [n] qual (defScope st) f cdv A outer s H C8.E0 p) [] σ' H' s' → RelV v u → Q v H' → CE outer P w H s Q u s' :=
    fun {σ' H' v u} J rv q => ⟨v, H', J.os, J.bare, J.base, J.hok, rv, q⟩
  cases fl with
  | ret u =>
    obtain ⟨v, σ', H', J, rv, q⟩ := hs
    exact fin J rv q
  | next =>
    obtain ⟨σ', H', J, q⟩ := hs
    exact fin (v := V.non) (u := Value.none) J rfl q
  | brk =>
    obtain ⟨_, _, _, q⟩ := hs
    exact False.elim q
  | cont =>
    obtain ⟨_, _, _, q⟩ := hs
    exact False.elim q
end
section
variable {X : Cx} {i : Nat} {cs : List String} {g : String → Bool} {p p1 p2 p3 pos : Pos}
/-- the call, in the suite -/
theorem fub_call {k : Nat} {f : Addr} {fd : FuncData} {x n n0 : Str} (F : FnX X.prog X.w X.K X.mg X.base k f fd n0 cs g) (hr : Room k X.A) (hN : X.N[i]? = some n) (hv : Vis X.env.scope n) (hg : Gl X x) (hm : X.mg x = some (.ref f)) (hk : PySem.W.keepIn X.K (.ref f) = true) (hb : Binds X.K fd [n0] [])
    (hdb : (x == ("__debug__" : Str)) = false := by decide) (hd : (n == ("__debug__" : Str)) = false := by decide) (hcd : (n == ("__classdict__" : Str)) = false := by decide)
    (he : starEach [.Name n p1] X.env = (false, eval (.Name n p1) X.env) :: starEach [] X.env := by rfl) (hpl : (backTo pos (starEach [] X.env)).any (·.1) = false := by rfl) :
    FUB X i cs (.Call (.Name x p) [.Name n p1] [] pos) g :=
  ⟨fun a oe pn c C h1 h2 h3 h4 => by
    refine ⟨fun pins s σ H Q I h => ?_⟩
    obtain ⟨η, S, hR, ha, kk⟩ := h
    refine wpAny_Call_Name_kw (ld_glob (X := X.suite a ((a, oe) :: pn)) I hg hm ?_ hdb)
    have hpa : PA (X.suite a ((a, oe) :: pn)) [.Name n p1] (tCons (tVar i) tNil) := pa_cons (pe_var (i := i) hN hv hd hcd) pa_nil he
    refine PySem.W.callWith_K (h₀ := X.base) I.ok.mod.kin hk (thn (hpa.run pos pins s σ H (fun vs H1 => vs = [V.ref a] ∧ H1 = H) I ⟨.ref a, ha, rfl, rfl⟩) fun us s1 ⟨vs, H1, I1, r, q⟩ => ⟨I1.kIn, ?_⟩) he hpl
    obtain ⟨rfl, rfl⟩ := q
    rw [Vals.ref1 r]
    have P1 := I1.pin (a, oe) (List.mem_append.mpr (.inl List.mem_cons_self))
    have hpin : L2H.PinOk (X.suite a ((a, oe) :: pn)).stack H1 s1 (a, oe) := ⟨P1.1, P1.2.1, fun hm => (List.mem_cons.mp (I1.stkSub a hm)).elim P1.2.2.1 P1.2.2.2.1, P1.2.2.2.2⟩
    have b := hb s1 [Value.ref a] I1.kIn rfl
    rw [List.append_nil] at b
    refine wpAny_call (codeAny_mono (F.run (X.suite a ((a, oe) :: pn)).A (X.suite a ((a, oe) :: pn)).stack s1 H1 ⟨[Value.ref a], []⟩ Q (a, oe) c C (show L2H.RoomH k (X.suite a ((a, oe) :: pn)).A from ⟨hr.dp, hr.un⟩) h1 h2 h3 h4 hpin I1.env0 b (fun H2 sd => kk H2 (sd.go hR).1 (sd.go hR).2)) fun r s' hq => ?_)
    cases r with
    | error e => exact False.elim hq
    | ok fl =>
      cases fl with
      | ret u => exact I1.after hq
      | next => exact False.elim hq
      | brk => exact False.elim hq
      | cont => exact False.elim hq⟩
/-- x = n + int(test) -/
def uAdd (j : Nat) (n : Int) (f : String → Bool) : String → St → St := fun c σ => σ.set j (some (.int (n + (if f c = true then 1 else 0))))
theorem fu_add {j : Nat} {x : Str} {n : Int} {jj : Nat} {e : Expr} {f : String → Bool} {p5 p6 p7 : Pos} (h : FUB X i cs e f) (hN : X.N.Nodup) (hi : X.N[j]? = some x) (hx : Loc X.env.scope x) (hij : (j == i) = false) (hg : Gl X "int") (hm : X.mg "int" = none) (hb : bootBuiltins "int" = some (.type "int"))
    (hs : swapsWith (.BinOp (.Constant (.int n) jj p2) .Add (.Call (.Name "int" p5) [e] [] p6) p7) (some (.Name x p)) pos.line X.env = pure false := by rfl)
    (he : starEach [e] X.env = (false, eval e X.env) :: starEach [] X.env := by rfl)
    (hf : X.fn x = true ∨ X.env.scope.names.lookup x = some .local := by first | exact .inl rfl | exact .inr rfl | assumption) :
    FU X i cs (.Assign [.Name x p] (.BinOp (.Constant (.int n) jj p2) .Add (.Call (.Name "int" p5) [e] [] p6) p7) pos) (uAdd j n f) :=
  ⟨fun a oe pn c C h1 h2 h3 h4 => PS.wk (ps_set (X := X.suite a ((a, oe) :: pn)) (i := j) hN hi hx (pe_op op_add pe_int (pe_callTy call_int1 hg hm hb (pa_cons (h.run a oe pn c C h1 h2 h3 h4) pa_nil he) (by decide) (by decide) he rfl)) hs hf) fun D σ H hh => by
    obtain ⟨η, S, σ0, hR, hS, ha, k⟩ := hh
    refine ⟨η, S, hR, ha, fun H1 e1 r1 => .inr ⟨f c, rfl, ?_⟩⟩
    refine ⟨n, if f c = true then 1 else 0, rfl, rfl, ?_⟩
    refine k H1 _ e1 r1 (hS.set j (show OR η (some (.int _)) (some (.int _)) from rfl)) ?_
    rw [List.getElem?_set_ne (by simpa using hij)]; exact ha⟩
end
structure DfX (P : Program) (w : World) (K : PySem.W.Frag) (mg : Str → Option Value) (base : Heap) (x : Str) (k : Nat) (n0 : Str) (cs : List String) (g : String → Bool) : Prop where
  ex : ∃ (f : Addr) (fd : FuncData), FnX P w K mg base k f fd n0 cs g ∧ mg x = some (.ref f) ∧ PySem.W.keepIn K (.ref f) = true ∧ Binds K fd [n0] []
theorem FnX.mono {P : Program} {w : World} {K : PySem.W.Frag} {mg : Str → Option Value} {base : Heap} {k j : Nat} {f : Addr} {fd : FuncData} {x0 : Str} {cs : List String} {g : String → Bool} (F : FnX P w K mg base k f fd x0 cs g) (h : k ≤ j) : FnX P w K mg base j f fd x0 cs g :=
  ⟨fun A outer s H args Q p c C hr => F.run A outer s H args Q p c C (hr.mono h)⟩
theorem fub_call' {X : Cx} {i j : Nat} {cs : List String} {g : String → Bool} {p p1 pos : Pos} {k : Nat} {x n n0 : Str} (D : DfX X.prog X.w X.K X.mg X.base x k n0 cs g) (hr : Room j X.A) (hj : k ≤ j) (hN : X.N[i]? = some n) (hv : Vis X.env.scope n) (hg : Gl X x)
    (hdb : (x == ("__debug__" : Str)) = false := by decide) (hd : (n == ("__debug__" : Str)) = false := by decide) (hcd : (n == ("__classdict__" : Str)) = false := by decide)
    (he : starEach [.Name n p1] X.env = (false, eval (.Name n p1) X.env) :: starEach [] X.env := by rfl) (hpl : (backTo pos (starEach [] X.env)).any (·.1) = false := by rfl) :
    FUB X i cs (.Call (.Name x p) [.Name n p1] [] pos) g := by
  obtain ⟨f, fd, F, h1, h2, h3⟩ := D.ex
  exact fub_call (F.mono hj) hr hN hv hg h1 h2 h3 hdb hd hcd he hpl
end Fx
/-! Fx: several except clauses, with or without a name; a suite that returns a test of its error. -/
namespace Fx
open PySem PySem.Spec L2
open PyProof.Rows hiding St
abbrev Hd := Value × Option Nat × (Addr → Value → Option Addr → TS)
def wManyA (K : PySem.W.Frag) (Wout : WX) (D : Ends) : List Hd → WX
  | [] => Wout
  | (c, none, ts) :: r => fun cls d σ H => ∃ b, PySem.W.exmOne K cls c = some b ∧ (b = true → ∀ a, H a = none → ts a cls d D σ H) ∧ (b = false → wManyA K Wout D r cls d σ H)
  | (c, some i, ts) :: r => fun cls d σ H => ∃ b, PySem.W.exmOne K cls c = some b ∧ (b = true → ∀ a, H a = none → ts a cls d { nx := fun σ' H' => D.nx (σ'.set i none) H', rt := D.rt, bk := fun σ' H' => D.bk (σ'.set i none) H', ct := fun σ' H' => D.ct (σ'.set i none) H' } (σ.set i (some (.ref a))) H) ∧
      (b = false → wManyA K Wout D r cls d σ H)
inductive HdsA (X : Cx) : List ExceptHandler → List Hd → Prop
  | nil : HdsA X [] []
  | plain {x : Str} {c : Value} {ts : Addr → Value → Option Addr → TS} {b₀ : Stmt} {suite : List Stmt} {np pos' : Pos} {hds : List ExceptHandler} {l : List Hd} (hc : Names X x c)
      (hsu : ∀ (a : Addr) (oe : Obj) (cls : Value) (d : Option Addr) (pn : List (Addr × Obj)), Zc cls d oe → (∃ vs, oe.data = .fields vs) → PSs (X.suite a ((a, oe) :: pn)) (b₀ :: suite) (ts a cls d)) (r : HdsA X hds l) :
      HdsA X (.ExceptHandler (some (.Name x np)) none (b₀ :: suite) pos' :: hds) ((c, none, ts) :: l)
  | named {x n : Str} {i : Nat} {c : Value} {ts : Addr → Value → Option Addr → TS} {b₀ : Stmt} {suite : List Stmt} {np pos' : Pos} {hds : List ExceptHandler} {l : List Hd} (hi : X.N[i]? = some n) (hln : X.env.kindOf n = some .local) (hc : Names X x c)
      (hsu : ∀ (a : Addr) (oe : Obj) (cls : Value) (d : Option Addr) (pn : List (Addr × Obj)), Zc cls d oe → (∃ vs, oe.data = .fields vs) → PSs (X.suite a ((a, oe) :: pn)) (b₀ :: suite) (ts a cls d)) (r : HdsA X hds l) :
      HdsA X (.ExceptHandler (some (.Name x np)) (some n) (b₀ :: suite) pos' :: hds) ((c, some i, ts) :: l)
section
variable {X : Cx} {body : List Stmt} {h₀ : ExceptHandler} {hds : List ExceptHandler} {l : List Hd} {pos : Pos} {tb : WX → TS} {Wout : WX}
theorem ps_try_manyA (hs : X.stack = X.env :: X.outer) (hf : X.env.frame = some X.env.locals) (hN : X.N.Nodup) (tk : Takes X Wout)
    (hb : ∀ (W : WX) (pn : List (Addr × Obj)) (xe : Value → Shared → Prop), Takes (X.tr pn xe) W → PassesOwn (model X.prog X.w) X.A X.env xe → PSs (X.tr pn xe) body (tb W))
    (hh : HdsA X (h₀ :: hds) l) : PS X (.Try body (h₀ :: hds) [] [] pos) (fun D σ H => tb (wManyA X.K Wout D l) D σ H) := by
  refine ⟨fun pins s σ H D I h => ?_⟩
  have ok := I.ok
  have hfr : X.A.frames = some (X.env :: X.outer) := by rw [ok.frames, hs]
  refine wpAny_Try_except ?_
  refine wpAny_mono ((hb (wManyA X.K Wout D l) (X.pn ++ pins) (fun e s₁ => wpAny (model X.prog X.w) X.A (noteFrame e X.env) (fun _ s₂ => wpAny (model X.prog X.w) X.A (setFlight e none) (fun _ s₃ =>
    wpAny (model X.prog X.w) X.A (handleBy e X.env (h₀ :: hds)) (SP X pins D) X.xe s₃) X.xe s₂) X.xe s₁) (fun u s' xx => ?_) PassesOwn.looking).run [] s σ H D (I.toTry _) h) (fun f s1 hsp => ?_) (fun e s1 he => he)
  · obtain ⟨a, B, sI, pins', σ', H', cls, d, rfl, J', nb, up, sky, na, os, ag, w⟩ := xx
    have J : Inv X pins σ' H' sI := J'.ofTry ok
    have sky' : Sky B (X.env :: X.outer) a (Zc cls d) X.env.locals s'.heap := by rw [← hs]; exact sky
    show wpAny (model X.prog X.w) X.A (noteFrame (.ref a) X.env) _ _ _
    refine Sky.land Zc.steady hfr hf sky' fun h3 fl3 up3 => ?_
    have J3 : Inv X pins σ' H' { s' with heap := h3 } := J.landed nb fl3.1 (up.trans up3) os ag
    obtain ⟨oe3, vs3, he3, hz3, hd3⟩ := fl3.there
    have notFr : ∀ {h : Heap} {o : Obj} {vs : Array Value}, h.FunFrames B (X.env :: X.outer) → h.get? a = some o → o.data = .fields vs → a ∉ frs (X.env :: X.outer) := fun {h o vs} ff e dd hm => by
      obtain ⟨_, o', e', hnf⟩ := ff.mem hm
      rw [e] at e'; cases e'
      exact hnf _ dd
    have nfr := notFr fl3.2.2.1 he3 hd3
    have nL : a ≠ X.env.locals := fun z => nfr (List.mem_filterMap.mpr ⟨X.env, List.mem_cons_self, by rw [hf, z]⟩)
    have nF : a ∉ X.fs := fun hm => by
      obtain ⟨e, he, q⟩ := List.mem_filterMap.mp hm
      exact nfr (List.mem_filterMap.mpr ⟨e, List.mem_cons_of_mem _ he, q⟩)
    have S3 := J3.suite he3 hd3 na nL nF
    have LT : PySem.W.Looks (model X.prog X.w) h3 (typeOf (.ref a)) cls := fun A Q E s k q => wpAny_typeOf_ref (k _ _ he3) (by rw [hz3.1]; exact q)
    have test : ∀ {x : Str} {np : Pos} {c : Value}, Names X x c → ∀ {Q : Value → Shared → Prop} {E : Value → Shared → Prop}, Q c { s' with heap := h3 } → wpAny (model X.prog X.w) (X.A.mark (some (.ref a))) (eval (.Name x np) X.env) Q E { s' with heap := h3 } := fun {x np c} hc {Q E} q => by
      obtain ⟨hg, hdbg, hm | ⟨hm, hv, hnn⟩⟩ := hc
      · exact ld_glob (X := X.suite a ((a, oe3) :: (X.pn ++ pins))) S3 hg hm q hdbg
      · exact ld_blt (X := X.suite a ((a, oe3) :: (X.pn ++ pins))) S3 hg hm hv q hnn hdbg
    have go : ∀ {hds' : List ExceptHandler} {l' : List Hd}, HdsA X hds' l' → wManyA X.K Wout D l' cls d σ' H' →
        wpAny (model X.prog X.w) X.A (handleBy (.ref a) X.env hds') (SP X pins D) X.xe { s' with heap := h3 } := by
      intro hds' l' hk
      induction hk with
      | nil =>
        intro w
        refine wpAny_handleBy_nil ?_
        obtain ⟨k1, k2, k3, oe, vs, T, oT, ts', he, hz, hd, h1, hr⟩ := id fl3
        unfold PySem.passOn
        refine wpAny_bind (wpAny_field he hd h1 ?_)
        rw [if_neg (show ¬ ((Value.ref T == Value.none) = true) from by simp)]
        have fin : wpAny (model X.prog X.w) X.A (setFlight (.ref a) X.env.frame) (fun _ s4 => wpAny (model X.prog X.w) X.A (throw (.ref a) : Sem Flow) (SP X pins D) X.xe s4) X.xe { s' with heap := h3 } := by
          rw [hf]
          refine HandSPX.setFlight_upZ fl3 fun h4 hh4 up4 => wpAny_throw (tk _ _ ?_)
          exact ⟨a, B, sI, pins, σ', H', cls, d, rfl, J, nb, (up.trans up3).trans up4, .inr (.inr (by rw [hs]; exact hh4)), na, os, ag, w⟩
        first
          | exact wpAny_bind (wpAny_pure (wpAny_bind fin))
          | exact wpAny_bind fin
      | @plain x c ts b₀ suite np pos' hds2 l2 hc hsu r ih =>
        intro w
        obtain ⟨b, hb1, hyes, hno⟩ := w
        refine wpAny_handleBy_cons (codeAny_handlers_test ?_) (by intro q; cases q)
        have LM := PySem.W.exm_one (M := model X.prog X.w) (J3.kIn) LT hb1
        refine test hc (LM.here ?_)
        cases b with
        | true =>
          refine codeAny_handlers_suite ?_
          refine HandSPX.lands_againZ fl3 fun h4 fl4 up4 => ?_
          have J4 : Inv X pins σ' H' { s' with heap := h4 } := J.landed nb fl4.1 ((up.trans up3).trans up4) os ag
          obtain ⟨oe4, vs4, he4, hz4, hd4⟩ := fl4.there
          have S4 := J4.suite he4 hd4 na nL nF
          refine wpAny_mono ((hsu a oe4 cls d (X.pn ++ pins) hz4 ⟨_, hd4⟩).run [] _ _ H' _ S4 (hyes rfl a na)) (fun f s6 hsp => ?_) (fun _ _ z => False.elim z)
          cases f with
          | next =>
            obtain ⟨σ6, H6, S6, q6⟩ := hsp
            exact ⟨_, _, S6.unsuite ok, q6⟩
          | brk =>
            obtain ⟨σ6, H6, S6, q6⟩ := hsp
            exact ⟨_, _, S6.unsuite ok, q6⟩
          | cont =>
            obtain ⟨σ6, H6, S6, q6⟩ := hsp
            exact ⟨_, _, S6.unsuite ok, q6⟩
          | ret u =>
            obtain ⟨v6, σ6, H6, S6, r6, q6⟩ := hsp
            exact ⟨_, _, _, S6.unsuite ok, r6, q6⟩
        | false =>
          show wpAny _ X.A (handleBy (.ref a) X.env hds2) _ _ _
          exact ih (hno rfl)
      | @named x n i c ts b₀ suite np pos' hds2 l2 hi hln hc hsu r ih =>
        intro w
        obtain ⟨b, hb1, hyes, hno⟩ := w
        refine wpAny_handleBy_cons (codeAny_handlers_test ?_) (by intro q; cases q)
        have LM := PySem.W.exm_one (M := model X.prog X.w) (J3.kIn) LT hb1
        refine test hc (LM.here ?_)
        cases b with
        | true =>
          refine codeAny_handlers_suite_as ?_
          refine HandSPX.lands_againZ fl3 fun h4 fl4 up4 => ?_
          have J4 : Inv X pins σ' H' { s' with heap := h4 } := J.landed nb fl4.1 ((up.trans up3).trans up4) os ag
          obtain ⟨oe4, vs4, he4, hz4, hd4⟩ := fl4.there
          have S4 := J4.suite he4 hd4 na nL nF
          refine store_ok (X := X.suite a ((a, oe4) :: (X.pn ++ pins))) (v := .ref a) S4 hN hi (.inl hln) rfl (fun s5 S5 => ?_) (.inr hln)
          refine wpAny_mono ((hsu a oe4 cls d (X.pn ++ pins) hz4 ⟨_, hd4⟩).run [] s5 _ H' _ S5 (hyes rfl a na)) (fun f s6 hsp => ?_) (fun _ _ z => False.elim z)
          have end_ : ∀ {σ6 : St} {H6 : Hp} {Q : Shared → Prop}, Inv (X.suite a ((a, oe4) :: (X.pn ++ pins))) [] σ6 H6 s6 → (∀ s7, Inv X pins (σ6.set i none) H6 s7 → Q s7) →
              wpAny (model X.prog X.w) X.A (do bindName X.env n .none; unbindBehindTheSuite X.env n pos') (fun _ s7 => Q s7) X.xe s6 := fun {σ6 H6 Q} S6 hq => gone_ok (S6.unsuite ok) hN hi hln hq
          cases f with
          | next =>
            obtain ⟨σ6, H6, S6, q6⟩ := hsp
            exact end_ S6 fun s7 J7 => ⟨_, _, J7, q6⟩
          | brk =>
            obtain ⟨σ6, H6, S6, q6⟩ := hsp
            exact end_ S6 fun s7 J7 => ⟨_, _, J7, q6⟩
          | cont =>
            obtain ⟨σ6, H6, S6, q6⟩ := hsp
            exact end_ S6 fun s7 J7 => ⟨_, _, J7, q6⟩
          | ret u =>
            obtain ⟨v6, σ6, H6, S6, r6, q6⟩ := hsp
            exact end_ S6 fun s7 J7 => ⟨_, _, _, J7, r6, q6⟩
        | false =>
          show wpAny _ X.A (handleBy (.ref a) X.env hds2) _ _ _
          exact ih (hno rfl)
    exact go hh w
  · cases f with
    | next =>
      obtain ⟨σ', H', J', q⟩ := hsp
      exact wpAny_execs_nil ⟨σ', H', J'.ofTry ok, q⟩
    | brk =>
      obtain ⟨σ', H', J', q⟩ := hsp
      exact ⟨σ', H', J'.ofTry ok, q⟩
    | cont =>
      obtain ⟨σ', H', J', q⟩ := hsp
      exact ⟨σ', H', J'.ofTry ok, q⟩
    | ret u =>
      obtain ⟨v, σ', H', J', r, q⟩ := hsp
      exact ⟨v, σ', H', J'.ofTry ok, r, q⟩
end
/-! the readings -/
inductive Cl
  | pl (h : String) (ms : St → Sto → R Fl)
  | nm (h : String) (i : Nat) (u : String → St → St)
def clGo : List Cl → String → St → Sto → R Fl
  | [], c, σ, S => .ok (.rs c σ) S
  | .pl h ms :: r, c, σ, S => if subE c h = true then noRs (ms σ S) else clGo r c σ S
  | .nm h i u :: r, c, σ, S => if i < σ.length then (if subE c h = true then .ok (.nx ((u c (σ.set i none)).set i none)) S else clGo r c σ S) else .bad
def sTryM (cs : List String) (cl : List Cl) (body : St → Sto → R Fl) : St → Sto → R Fl := fun σ S => match body σ S with
  | .ok (.rs c σ1) S1 => if cs.contains c = true then clGo cl c σ1 S1 else .bad
  | r => r
inductive ClD (X : Cx) (cs : List String) : List ExceptHandler → List Cl → Prop
  | nil : ClD X cs [] []
  | pl {x : Str} {h : String} {b₀ : Stmt} {suite : List Stmt} {np pos' : Pos} {ms : St → Sto → R Fl} {hds : List ExceptHandler} {l : List Cl} (hg : Gl X x) (hk : HdX X.K X.mg cs h) (hsu : ∀ (a : Addr) (oe : Obj) (pn : List (Addr × Obj)), FSs (X.suite a ((a, oe) :: pn)) W0 (b₀ :: suite) ms) (r : ClD X cs hds l)
      (hx : x = Str.ofString h := by rfl) (hdb : (x == ("__debug__" : Str)) = false := by decide) : ClD X cs (.ExceptHandler (some (.Name x np)) none (b₀ :: suite) pos' :: hds) (.pl h ms :: l)
  | nm {x n : Str} {h : String} {i : Nat} {b₀ : Stmt} {suite : List Stmt} {np pos' : Pos} {u : String → St → St} {hds : List ExceptHandler} {l : List Cl} (hi : X.N[i]? = some n) (hln : X.env.kindOf n = some .local) (hg : Gl X x) (hk : HdX X.K X.mg cs h) (hsu : FUs X i cs (b₀ :: suite) u) (r : ClD X cs hds l)
      (hx : x = Str.ofString h := by rfl) (hdb : (x == ("__debug__" : Str)) = false := by decide) : ClD X cs (.ExceptHandler (some (.Name x np)) (some n) (b₀ :: suite) pos' :: hds) (.nm h i u :: l)
abbrev tsN (X : Cx) (cs : List String) (i : Nat) (u : String → St → St) : Addr → Value → Option Addr → TS := fun a cls d => fun D σ H => ∃ c C, c ∈ cs ∧ X.mg (Str.ofString c) = some (.ref C) ∧ cls = .ref C ∧ d = none ∧ ∃ η S σ0, Rel X.K η S H ∧ SR η σ0 σ ∧ σ[i]? = some (some (.ref a)) ∧ ∀ H1 σ1, Ext η H η H1 → Rel X.K η S H1 → SR η (u c σ0) σ1 → σ1[i]? = some (some (.ref a)) → D.nx σ1 H1
theorem ClD.go {X : Cx} {cs : List String} {W : WX} {hds : List ExceptHandler} {cl : List Cl} (k : ClD X cs hds cl) : ∃ l : List Hd, HdsA X hds l ∧
    ∀ (D : Ends) (η η' : List Addr) (H H' : Hp) (c : String) (C : Addr) (σ1 σ2 : St) (S1 : Sto), c ∈ cs → X.mg (Str.ofString c) = some (.ref C) → Ext η H η' H' → Rel X.K η' S1 H' → SR η' σ1 σ2 → PoS X W D η H (clGo cl c σ1 S1) → wManyA X.K W D l (.ref C) none σ2 H' := by
  induction k with
  | nil => exact ⟨[], .nil, fun D η η' H H' c C σ1 σ2 S1 _ hC e' hR' hS' p => p η' H' σ2 C e' hR' hS' hC⟩
  | @pl x h b₀ suite np pos' ms hds l hg hk hsu r hx hdb ih =>
    obtain ⟨l', h1, h2⟩ := ih
    obtain ⟨Ch, hm, hk⟩ := hk
    refine ⟨(.ref Ch, none, fun _ _ _ => lfS X W0 ms) :: l', .plain ⟨hg, hdb, .inl (by rw [hx]; exact hm)⟩ (fun a oe cls d pn _ _ => (hsu a oe pn).run) h1, fun D η η' H H' c C σ1 σ2 S1 hc hC e' hR' hS' p => ?_⟩
    refine ⟨subE c h, hk c hc C hC, fun hb a ha => ?_, fun hb => ?_⟩
    · rw [clGo, if_pos hb] at p
      exact ⟨η', S1, σ1, hR', hS', PoS.mono e' (lfS_nx p)⟩
    · rw [clGo, if_neg (by rw [hb]; decide)] at p
      exact h2 D η η' H H' c C σ1 σ2 S1 hc hC e' hR' hS' p
  | @nm x n h i b₀ suite np pos' u hds l hi hln hg hk hsu r hx hdb ih =>
    obtain ⟨l', h1, h2⟩ := ih
    obtain ⟨Ch, hm, hk⟩ := hk
    refine ⟨(.ref Ch, some i, tsN X cs i u) :: l', .named hi hln ⟨hg, hdb, .inl (by rw [hx]; exact hm)⟩ (fun a oe cls d pn hz hfl => ⟨fun pins s σ H D I hh => by
      obtain ⟨c, C, h1, h2, rfl, rfl, h3⟩ := hh
      exact (hsu.run a oe pn c C h1 h2 hz hfl).run pins s σ H D I h3⟩) h1, fun D η η' H H' c C σ1 σ2 S1 hc hC e' hR' hS' p => ?_⟩
    rw [clGo] at p
    by_cases hl : i < σ1.length
    · rw [if_pos hl] at p
      refine ⟨subE c h, hk c hc C hC, fun hb a ha => ?_, fun hb => ?_⟩
      · rw [if_pos hb] at p
        refine ⟨c, C, hc, hC, rfl, rfl, η', S1, σ1.set i none, hR', hS'.unset i _, ?_, fun H1 σ3 e1 r1 s1 _ => ?_⟩
        · exact List.getElem?_set_self (by rw [← hS'.length]; exact hl)
        · exact p η' H1 (σ3.set i none) (e'.trans e1) r1 (s1.unset i none)
      · rw [if_neg (by rw [hb]; decide)] at p
        exact h2 D η η' H H' c C σ1 σ2 S1 hc hC e' hR' hS' p
    · rw [if_neg hl] at p; exact p.elim
theorem fs_tryM {X : Cx} {W : WX} {cs : List String} {cl : List Cl} {body : List Stmt} {h₀ : ExceptHandler} {hds : List ExceptHandler} {pos : Pos} {mb : St → Sto → R Fl} (hs : X.stack = X.env :: X.outer) (hf : X.env.frame = some X.env.locals) (hN : X.N.Nodup) (tk : Takes X W)
    (hb : ∀ (W : WX) (pn : List (Addr × Obj)) (xe : Value → Shared → Prop), Takes (X.tr pn xe) W → PassesOwn (model X.prog X.w) X.A X.env xe → FSs (X.tr pn xe) W body mb)
    (k : ClD X cs (h₀ :: hds) cl) : FS X W (.Try body (h₀ :: hds) [] [] pos) (sTryM cs cl mb) := by
  obtain ⟨l, h1, h2⟩ := k.go (W := W)
  refine ⟨PS.wk (ps_try_manyA (tb := fun W' => lfS X W' mb) hs hf hN tk (fun W' pn xe t q => (hb W' pn xe t q).run) h1) fun D σ H hh => ?_⟩
  obtain ⟨η, S, σ0, hR, hS, p⟩ := hh
  refine ⟨η, S, σ0, hR, hS, ?_⟩
  unfold sTryM at p
  cases e : mb σ0 S with
  | ok f S1 =>
    rw [e] at p
    cases f with
    | rs c σ1 =>
      intro η' H' σ2 C e' hR' hS' hC
      dsimp only at p
      by_cases hcs : cs.contains c = true
      · rw [if_pos hcs] at p
        exact h2 D η η' H H' c C σ1 σ2 S1 (by simpa using hcs) hC e' hR' hS' p
      · rw [if_neg hcs] at p; exact p.elim
    | nx σ1 => exact p
    | rt v => exact p
    | bk σ1 => exact p
    | ct σ1 => exact p
  | exc c S1 => rw [e] at p; exact p.elim
  | bad => rw [e] at p; exact p.elim
section
variable {X : Cx} {i : Nat} {cs : List String} {e e2 : Expr} {f g : String → Bool} {p p2 p3 pos : Pos}
/-- isinstance(error, Own) -/
theorem fub_is1 {n x : Str} {d : String} (hE : ExCs X.K X.mg cs) (I1 : IsC X.K X.mg cs d) (hN : X.N[i]? = some n) (hv : Vis X.env.scope n) (hg : Gl X "isinstance") (hm : X.mg "isinstance" = none) (hb : bootBuiltins "isinstance" = some (.builtin "isinstance")) (hgx : Gl X x) (hx : x = Str.ofString d := by rfl)
    (hdx : (x == ("__debug__" : Str)) = false := by decide) (hd : (n == ("__debug__" : Str)) = false := by decide) (hcd : (n == ("__classdict__" : Str)) = false := by decide)
    (he : starEach (.Name n p :: [.Name x p2]) X.env = (false, eval (.Name n p) X.env) :: starEach [.Name x p2] X.env := by rfl) (he2 : starEach [.Name x p2] X.env = (false, eval (.Name x p2) X.env) :: starEach [] X.env := by rfl)
    (hpl : (backTo pos (starEach [.Name x p2] X.env)).any (·.1) = false := by rfl) :
    FUB X i cs (.Call (.Name "isinstance" p3) [.Name n p, .Name x p2] [] pos) (fun c => subE c d) :=
  ⟨fun a oe pn c C h1 h2 h3 h4 => by
    obtain ⟨D, hD, hk⟩ := I1.ex
    refine PE.wk (pe_callB (X := X.suite a ((a, oe) :: pn)) (call_isE (hE c h1 C h2) h3 h4) hg hm hb (pa_cons (pe_var (i := i) hN hv hd hcd) (pa_cons (pe_glob (v := .ref D) hgx (by rw [hx]; exact hD) rfl hdx) pa_nil he2) he) (by decide) (by decide) he hpl) fun σ H Q hh => ?_
    obtain ⟨η, S, hR, ha, k⟩ := hh
    exact ⟨.ref a, ha, .ref D, .ref D, _, rfl, fun u hu => hu, hk c h1 C h2, k H (Ext.refl _ _) hR⟩⟩
theorem fub_or (h : FUB X i cs e f) (h2 : FUB X i cs e2 g) : FUB X i cs (.BoolOp .Or [e, e2] pos) (fun c => f c || g c) :=
  ⟨fun a oe pn c C q1 q2 q3 q4 => PE.wk (pe_or (h.run a oe pn c C q1 q2 q3 q4) (pe_one (h2.run a oe pn c C q1 q2 q3 q4))) fun σ H Q hh => by
    obtain ⟨η, S, hR, ha, k⟩ := hh
    refine ⟨η, S, hR, ha, fun H1 e1 r1 => ⟨f c, rfl, ?_⟩⟩
    cases hf : f c with
    | true =>
      have := k H1 e1 r1
      simp only [hf, Bool.true_or] at this
      exact this
    | false =>
      refine ⟨η, S, r1, ha, fun H2 e2 r2 => ?_⟩
      have := k H2 (e1.trans e2) r2
      simp only [hf, Bool.false_or] at this
      exact this⟩
/-- x = n + k * int(test) -/
def uAddMul (j : Nat) (n k : Int) (f : String → Bool) : String → St → St := fun c σ => σ.set j (some (.int (n + k * (if f c = true then 1 else 0))))
theorem fu_addmul {j : Nat} {x : Str} {n k : Int} {jj jk : Nat} {p5 p6 p7 p8 p9 : Pos} (h : FUB X i cs e f) (hN : X.N.Nodup) (hi : X.N[j]? = some x) (hx : Loc X.env.scope x) (hij : (j == i) = false) (hg : Gl X "int") (hm : X.mg "int" = none) (hb : bootBuiltins "int" = some (.type "int"))
    (hs : swapsWith (.BinOp (.Constant (.int n) jj p2) .Add (.BinOp (.Constant (.int k) jk p8) .Mult (.Call (.Name "int" p5) [e] [] p6) p7) p9) (some (.Name x p)) pos.line X.env = pure false := by rfl) (hk : -1000 ≤ k ∧ k ≤ 1000 := by decide)
    (he : starEach [e] X.env = (false, eval e X.env) :: starEach [] X.env := by rfl)
    (hf : X.fn x = true ∨ X.env.scope.names.lookup x = some .local := by first | exact .inl rfl | exact .inr rfl | assumption) :
    FU X i cs (.Assign [.Name x p] (.BinOp (.Constant (.int n) jj p2) .Add (.BinOp (.Constant (.int k) jk p8) .Mult (.Call (.Name "int" p5) [e] [] p6) p7) p9) pos) (uAddMul j n k f) :=
  ⟨fun a oe pn c C h1 h2 h3 h4 => PS.wk (ps_set (X := X.suite a ((a, oe) :: pn)) (i := j) hN hi hx (pe_op op_add pe_int (pe_op op_mul pe_int (pe_callTy call_int1 hg hm hb (pa_cons (h.run a oe pn c C h1 h2 h3 h4) pa_nil he) (by decide) (by decide) he rfl))) hs hf) fun D σ H hh => by
    obtain ⟨η, S, σ0, hR, hS, ha, kk⟩ := hh
    refine ⟨η, S, hR, ha, fun H1 e1 r1 => .inr ⟨f c, rfl, ?_⟩⟩
    refine ⟨k, if f c = true then 1 else 0, rfl, rfl, ?_, ?_⟩
    · exact .inl ⟨by omega, by omega⟩
    · refine ⟨n, k * (if f c = true then 1 else 0), rfl, rfl, ?_⟩
      refine kk H1 _ e1 r1 (hS.set j (show OR η (some (.int _)) (some (.int _)) from rfl)) ?_
      rw [List.getElem?_set_ne (by simpa using hij)]; exact ha⟩
end
/-! try: body, except h as n: return test -/
def sTryR (cs : List String) (h : String) (i : Nat) (body : St → Sto → R Fl) (f : String → Bool) : St → Sto → R Fl := fun σ S => match body σ S with
  | .ok (.rs c σ1) S1 => if cs.contains c = true ∧ i < σ1.length then (if subE c h = true then .ok (.rt (.bl (f c))) S1 else .ok (.rs c σ1) S1) else .bad
  | r => r
theorem fs_tryR {X : Cx} {W : WX} {x n : Str} {h : String} {i : Nat} {cs : List String} {body : List Stmt} {e : Expr} {np pos pos' pos2 : Pos} {mb : St → Sto → R Fl} {f : String → Bool} (hs : X.stack = X.env :: X.outer) (hf : X.env.frame = some X.env.locals)
    (hN : X.N.Nodup) (hi : X.N[i]? = some n) (hln : X.env.kindOf n = some .local) (hg : Gl X x) (tk : Takes X W) (hk : HdX X.K X.mg cs h)
    (hb : ∀ (W : WX) (pn : List (Addr × Obj)) (xe : Value → Shared → Prop), Takes (X.tr pn xe) W → PassesOwn (model X.prog X.w) X.A X.env xe → FSs (X.tr pn xe) W body mb)
    (hsu : FUB X i cs e f) (hx : x = Str.ofString h := by rfl) (hdb : (x == ("__debug__" : Str)) = false := by decide) :
    FS X W (.Try body [.ExceptHandler (some (.Name x np)) (some n) [.Return (some e) pos2] pos'] [] [] pos) (sTryR cs h i mb f) := by
  obtain ⟨Ch, hm, hk⟩ := hk
  refine ⟨PS.wk (ps_try_as (tb := fun W' => lfS X W' mb) (ts := fun a cls d => fun D σ H => ∃ c C, c ∈ cs ∧ X.mg (Str.ofString c) = some (.ref C) ∧ cls = .ref C ∧ d = none ∧ ∃ η S, Rel X.K η S H ∧ σ[i]? = some (some (.ref a)) ∧ ∀ H1, Ext η H η H1 → Rel X.K η S H1 → D.rt (.bl (f c)) H1)
    hs hf hN hi hln ⟨hg, hdb, .inl (by rw [hx]; exact hm)⟩ tk (fun W' pn xe t q => (hb W' pn xe t q).run) (fun a oe cls d pn hz hfl => ⟨fun pins s σ H D I hh => by
      obtain ⟨c, C, h1, h2, rfl, rfl, h3⟩ := hh
      exact (pss_one (ps_ret (hsu.run a oe pn c C h1 h2 hz hfl))).run pins s σ H D I h3⟩)) fun D σ H hh => ?_⟩
  obtain ⟨η, S, σ0, hR, hS, p⟩ := hh
  refine ⟨η, S, σ0, hR, hS, ?_⟩
  unfold sTryR at p
  cases e : mb σ0 S with
  | ok fl S1 =>
    rw [e] at p
    cases fl with
    | rs c σ1 =>
      intro η' H' σ2 C e' hR' hS' hC
      dsimp only at p
      by_cases hcs : cs.contains c = true ∧ i < σ1.length
      · rw [if_pos hcs] at p
        have hcm : c ∈ cs := by simpa using hcs.1
        refine ⟨subE c h, hk c hcm C hC, fun hb a ha => ?_, fun hb => ?_⟩
        · rw [if_pos hb] at p
          refine ⟨c, C, hcm, hC, rfl, rfl, η', S1, hR', ?_, fun H1 e1 r1 => ?_⟩
          · exact List.getElem?_set_self (by rw [← hS'.length]; exact hcs.2)
          · exact p η' H1 (.bl (f c)) (e'.trans e1) r1 rfl
        · rw [if_neg (by rw [hb]; decide)] at p
          exact p η' H' σ2 C e' hR' hS' hC
      · rw [if_neg hcs] at p; exact p.elim
    | nx σ1 => exact p
    | rt v => exact p
    | bk σ1 => exact p
    | ct σ1 => exact p
  | exc c S1 => rw [e] at p; exact p.elim
  | bad => rw [e] at p; exact p.elim
/-! for simp -/
def kTrM (r : R Fl) (cs : List String) (cl : List Cl) : R Fl := match r with
  | .ok (.rs c σ1) S1 => if cs.contains c = true then clGo cl c σ1 S1 else .bad
  | r => r
theorem sTryM_eq (cs : List String) (cl : List Cl) (b : St → Sto → R Fl) (σ : St) (S : Sto) : sTryM cs cl b σ S = kTrM (b σ S) cs cl := by
  unfold sTryM kTrM; cases b σ S with
  | ok f S1 => cases f <;> rfl
  | _ => rfl
theorem kTrM_nx (σ : St) (S : Sto) (cs : List String) (cl : List Cl) : kTrM (.ok (.nx σ) S) cs cl = .ok (.nx σ) S := rfl
theorem kTrM_rs {c : String} {cs : List String} (h : cs.contains c = true) (σ : St) (S : Sto) (cl : List Cl) : kTrM (.ok (.rs c σ) S) cs cl = clGo cl c σ S := if_pos h
theorem clGo_nm {c h : String} {i : Nat} {u : String → St → St} {r : List Cl} {σ : St} {S : Sto} (hl : i < σ.length) (hs : subE c h = true) : clGo (.nm h i u :: r) c σ S = .ok (.nx ((u c (σ.set i none)).set i none)) S := by rw [clGo, if_pos hl, if_pos hs]
theorem clGo_nm_no {c h : String} {i : Nat} {u : String → St → St} {r : List Cl} {σ : St} {S : Sto} (hl : i < σ.length) (hs : subE c h = false) : clGo (.nm h i u :: r) c σ S = clGo r c σ S := by rw [clGo, if_pos hl, if_neg (by rw [hs]; decide)]
def kTrR (r : R Fl) (cs : List String) (h : String) (i : Nat) (f : String → Bool) : R Fl := match r with
  | .ok (.rs c σ1) S1 => if cs.contains c = true ∧ i < σ1.length then (if subE c h = true then .ok (.rt (.bl (f c))) S1 else .ok (.rs c σ1) S1) else .bad
  | r => r
theorem sTryR_eq (cs : List String) (h : String) (i : Nat) (b : St → Sto → R Fl) (f : String → Bool) (σ : St) (S : Sto) : sTryR cs h i b f σ S = kTrR (b σ S) cs h i f := by
  unfold sTryR kTrR; cases b σ S with
  | ok f S1 => cases f <;> rfl
  | _ => rfl
theorem kTrR_nx (σ : St) (S : Sto) (cs : List String) (h : String) (i : Nat) (f : String → Bool) : kTrR (.ok (.nx σ) S) cs h i f = .ok (.nx σ) S := rfl
theorem kTrR_rs {c h : String} {cs : List String} {i : Nat} {f : String → Bool} {σ : St} {S : Sto} (h1 : cs.contains c = true) (h2 : subE c h = true) (h3 : i < σ.length) : kTrR (.ok (.rs c σ) S) cs h i f = .ok (.rt (.bl (f c))) S := by
  show (if cs.contains c = true ∧ i < σ.length then _ else _) = _
  rw [if_pos ⟨h1, h3⟩, if_pos h2]
end Fx
/-! Fx: texts: startswith, split, partition, join, str(n), int(word). -/
namespace Fx
open PySem PySem.Spec L2
open PyProof.Rows hiding St
section
variable {X : Cx}
def isSt (x : V) (_ : Sto) : Bool := match x with
  | .str _ => true
  | _ => false
def startsM : V → List V → Sto → R V := fun x vs S => match x, vs with
  | .str a, [.str b] => .ok (.bl (Txt.startswith a b)) S
  | _, _ => .bad
theorem startsM_ok : MtM X (fun x xs H Q => ∃ a b, x = .str a ∧ xs = [.str b] ∧ Q (.bl (Txt.startswith a b)) H) startsM := by
  intro W σ η S H x u xs us Q hR rx rs p
  unfold startsM at p
  split at p
  · rename_i a b
    obtain ⟨v, rfl, ry⟩ := VsR.one rs
    cases (show u = V.str a from rx)
    cases (show v = V.str b from ry)
    exact ⟨a, b, rfl, rfl, p.now hR rfl⟩
  · exact p.elim
def splitM : V → List V → Sto → R V := fun x vs S => match x, vs with
  | .str a, [.str b] => if (b.length == 0) = false ∧ a.length + 2 ≤ lim ∧ (Txt.split a b).length ≤ lim then alloc (.lst ((Txt.split a b).map V.str)) S else .bad
  | _, _ => .bad
theorem VsR.strs (η : List Addr) : ∀ xs : List Str, VsR η (xs.map V.str) (xs.map V.str)
  | [] => .nil
  | x :: xs => .cons rfl (VsR.strs η xs)
theorem splitM_ok : MtM X (fun x xs H Q => ∃ a b, x = .str a ∧ xs = [.str b] ∧ (b.length == 0) = false ∧ a.length + 2 ≤ sizeLine ∧ rNewStrs (Txt.split a b) H Q) splitM := by
  intro W σ η S H x u xs us Q hR rx rs p
  unfold splitM at p
  split at p
  · rename_i a b
    obtain ⟨v, rfl, ry⟩ := VsR.one rs
    cases (show u = V.str a from rx)
    cases (show v = V.str b from ry)
    split at p
    · rename_i h
      exact ⟨a, b, rfl, rfl, h.1, h.2.1, p.lst hR (VsR.strs η _) (by rw [List.length_map]; exact h.2.2)⟩
    · exact p.elim
  · exact p.elim
def partM : V → List V → Sto → R V := fun x vs S => match x, vs with
  | .str a, [.str b] => if (b.length == 0) = false ∧ a.length ≤ lim then alloc (.tup [.str (Txt.partition a b).1, .str (Txt.partition a b).2.1, .str (Txt.partition a b).2.2]) S else .bad
  | _, _ => .bad
theorem partM_ok : MtM X (fun x xs H Q => ∃ a b, x = .str a ∧ xs = [.str b] ∧ (b.length == 0) = false ∧ a.length ≤ sizeLine ∧
    ∀ p, H p = none → Q (.ref p) (upd H p (.tup [.str (Txt.partition a b).1, .str (Txt.partition a b).2.1, .str (Txt.partition a b).2.2]))) partM := by
  intro W σ η S H x u xs us Q hR rx rs p
  unfold partM at p
  split at p
  · rename_i a b
    obtain ⟨v, rfl, ry⟩ := VsR.one rs
    cases (show u = V.str a from rx)
    cases (show v = V.str b from ry)
    split at p
    · rename_i h
      exact ⟨a, b, rfl, rfl, h.1, h.2, p.tup hR (VsR.strs η [(Txt.partition a b).1, (Txt.partition a b).2.1, (Txt.partition a b).2.2]) (show 3 ≤ sizeLine by rw [sizeLine_eq]; omega)⟩
    · exact p.elim
  · exact p.elim
def intSM : List V → Sto → R V := fun vs S => match vs with
  | [.str a] => match PySem.intText? a with
    | some n => if a.length ≤ 640 then .ok (.int n) S else .bad
    | none => .bad
  | _ => .bad
theorem intSM_ok : CallM X (fun xs H Q => ∃ a n, xs = [.str a] ∧ PySem.intText? a = some n ∧ a.length ≤ 640 ∧ Q (.int n) H) intSM := by
  intro W σ η S H xs us Q hR hx p
  unfold intSM at p
  split at p
  · rename_i a
    obtain ⟨u, rfl, r⟩ := VsR.one hx
    cases (show u = V.str a from r)
    split at p
    · rename_i n hn
      split at p
      · rename_i h
        exact ⟨a, n, rfl, hn, h, p.now hR rfl⟩
      · exact p.elim
    · exact p.elim
  · exact p.elim
theorem isSt_ok : TyM X "str" isSt := by
  intro η S H x u hR r h
  cases x with
  | str a =>
    cases (show u = V.str a from r)
    rfl
  | _ => cases h
/-- str(n) -/
def textM : List V → Sto → R V := fun vs S => match vs with
  | [.int i] => if i.natAbs.log2 < 1920 then .ok (.str (toString i)) S else .bad
  | _ => .bad
theorem textM_ok : CallM X (fun xs H Q => ∃ i : Int, xs = [.int i] ∧ i.natAbs.log2 < 1920 ∧ Q (.str (toString i)) H) textM := by
  intro W σ η S H xs us Q hR hx p
  unfold textM at p
  split at p
  · rename_i i
    rw [VsR.int1 hx]
    split at p
    · rename_i h
      exact ⟨i, rfl, h, p.now hR rfl⟩
    · exact p.elim
  · exact p.elim
def allS : List V → Option (List Str)
  | [] => some []
  | .str a :: xs => (allS xs).map (a :: ·)
  | _ :: _ => none
theorem allS_eq : ∀ {vs : List V} {as : List Str}, allS vs = some as → vs = as.map V.str
  | [], as, h => by cases h; rfl
  | v :: vs, as, h => by
    cases v with
    | str a =>
      rw [allS] at h
      obtain ⟨bs, h1, rfl⟩ := Option.map_eq_some_iff.mp h
      rw [allS_eq h1]; rfl
    | _ => cases h
theorem allS_map : ∀ as : List Str, allS (as.map V.str) = some as
  | [] => rfl
  | a :: as => by rw [List.map_cons, allS, allS_map as]; rfl
theorem strs_same {η : List Addr} : ∀ {as : List Str} {us : List V}, VsR η (as.map V.str) us → us = as.map V.str
  | [], _, .nil => rfl
  | a :: as, _, .cons r t => by
    rw [strs_same t]
    cases (show _ = V.str a from r)
    rfl
def joinM : V → List V → Sto → R V := fun x vs S => match x, vs with
  | .str a, [y] => match (rdLT y S).bind allS with
    | some ys => if (ys.map (·.length)).sum + ys.length * a.length ≤ 16777216 then .ok (.str (Txt.join a ys)) S else .bad
    | none => .bad
  | _, _ => .bad
theorem joinM_ok : MtM X (fun x xs H Q => ∃ a p, ∃ ys : List Str, x = .str a ∧ xs = [.ref p] ∧ (SqL X.K H p (ys.map V.str) ∨ SqT X.K H p (ys.map V.str)) ∧
    (ys.map (·.length)).sum + ys.length * a.length ≤ 16777216 ∧ Q (.str (Txt.join a ys)) H) joinM := by
  intro W σ η S H x u xs us Q hR rx rs p
  unfold joinM at p
  split at p
  · rename_i a y
    obtain ⟨v, rfl, ry⟩ := VsR.one rs
    cases (show u = V.str a from rx)
    split at p
    · rename_i ys h
      obtain ⟨zs, e, h⟩ := Option.bind_eq_some_iff.mp h
      have e2 := allS_eq h
      subst e2
      obtain ⟨q, ws, rfl, hq, r2, _⟩ := rdLT_ok e hR ry
      rw [strs_same r2] at hq
      split at p
      · rename_i hz
        exact ⟨a, q, ys, rfl, rfl, hq, hz, p.now hR rfl⟩
      · exact p.elim
    · exact p.elim
  · exact p.elim
/-- x in text -/
def inSM (neg : Bool) : V → V → Sto → R V := fun x y S => match x, y with
  | .str i, .str j => .ok (.bl (if neg = true then !(!(Builtin.Str.occurrences j i 0 j.length 1).isEmpty) else !(Builtin.Str.occurrences j i 0 j.length 1).isEmpty)) S
  | _, _ => .bad
theorem inSM_in : OpM X (fun x y H Q => ∃ i j, x = .str i ∧ y = .str j ∧ Q (.bl (!(Builtin.Str.occurrences j i 0 j.length 1).isEmpty)) H) (inSM false) := by
  intro W σ η S H x y u v Q hR hx hy p
  unfold inSM at p
  split at p
  · rename_i i j
    cases (show u = V.str i from hx)
    cases (show v = V.str j from hy)
    exact ⟨i, j, rfl, rfl, p.now hR rfl⟩
  · exact p.elim
theorem inSM_notIn : OpM X (fun x y H Q => ∃ i j, x = .str i ∧ y = .str j ∧ Q (.bl (!(!(Builtin.Str.occurrences j i 0 j.length 1).isEmpty))) H) (inSM true) := by
  intro W σ η S H x y u v Q hR hx hy p
  unfold inSM at p
  split at p
  · rename_i i j
    cases (show u = V.str i from hx)
    cases (show v = V.str j from hy)
    exact ⟨i, j, rfl, rfl, p.now hR rfl⟩
  · exact p.elim
end
end Fx
/-! Fx: own classes: instances made, attributes read and stored, methods by the instance's class, isinstance; len(set(..)); two subscripts stored at once. -/
namespace Fx
open PySem PySem.Spec L2
open PyProof.Rows hiding St
variable {K : PySem.W.Frag} {η : List Addr} {S : Sto} {H : Hp}
theorem ofString_inj {s t : String} (h : Str.ofString s = Str.ofString t) : s = t := by
  rw [Str.ofString_eq_toList, Str.ofString_eq_toList] at h
  injection h with h
  have h2 : s.toList.map Char.toNat = t.toList.map Char.toNat := by simpa using congrArg Array.toList h
  have inj : ∀ {as bs : List Char}, as.map Char.toNat = bs.map Char.toNat → as = bs := by
    intro as
    induction as with
    | nil => intro bs h; cases bs with
      | nil => rfl
      | cons b bs => cases h
    | cons a as ih =>
      intro bs h
      cases bs with
      | nil => cases h
      | cons b bs =>
        rw [List.map_cons, List.map_cons] at h
        injection h with h1 h2
        rw [ih h2, show a = b from Char.ext (UInt32.toNat_inj.mp h1)]
  exact String.toList_injective (inj h2)
abbrev FdR (η : List Addr) : (String × V) → (Str × V) → Prop := fun p q => q.1 = Str.ofString p.1 ∧ VR η p.2 q.2
abbrev ClsN (K : PySem.W.Frag) (c : String) (C : Addr) : Prop := PySem.W.nsIn K mainGlobals (Str.ofString c) = some (some (.ref C))
theorem ClsN.inj {c : String} {C D : Addr} (h : ClsN K c C) (h2 : ClsN K c D) : C = D := by
  have := h.symm.trans h2
  injection this with this
  injection this with this
  injection this
def rdIns (x : V) (S : Sto) : Option (String × List (String × V)) := match x with
  | .ref n => match S[n]? with
    | some (.ins c fs) => some (c, fs)
    | _ => none
  | _ => none
theorem rdIns_ok {x u : V} {c : String} {fs : List (String × V)} (h : rdIns x S = some (c, fs)) (hR : Rel K η S H) (r : VR η x u) : ∃ (n : Nat) (a C dx : Addr) (us : List (Str × V)), x = .ref n ∧ u = .ref a ∧ η[n]? = some a ∧ S[n]? = some (.ins c fs) ∧ ClsN K c C ∧ H a = some (.ins C dx us) ∧ H dx = some (.own a) ∧ Paired (FdR η) fs us := by
  cases x with
  | ref n =>
    obtain ⟨a, e, rfl⟩ := r
    unfold rdIns at h
    cases ho : S[n]? with
    | none => simp [ho] at h
    | some o =>
      cases o with
      | ins c' fs' =>
        simp [ho] at h
        obtain ⟨rfl, rfl⟩ := h
        obtain ⟨C, dx, us, h1, h2, h3, h4⟩ := hR.ob n a _ e ho
        exact ⟨n, a, C, dx, us, rfl, rfl, e, ho, h1, h2, h3, h4⟩
      | _ => simp [ho] at h
  | _ => cases h
theorem look_some {f : String} {v : V} : ∀ {fs : List (String × V)} {us : List (Str × V)}, Paired (FdR η) fs us → fs.lookup f = some v → ∃ u, us.lookup (Str.ofString f) = some u ∧ VR η v u
  | _, _, .nil, h => by cases h
  | (k, w) :: fs, (k', w') :: us, .cons r t, h => by
    obtain ⟨r1, r2⟩ := r
    dsimp only at r1 r2
    subst r1
    rw [List.lookup_cons] at h ⊢
    by_cases e : f = k
    · subst e
      rw [show (f == f) = true by simp] at h
      rw [show (Str.ofString f == Str.ofString f) = true by simp]
      cases h
      exact ⟨w', rfl, r2⟩
    · rw [show (f == k) = false by simpa using e] at h
      rw [show (Str.ofString f == Str.ofString k) = false by simpa using fun z => e (ofString_inj z)]
      exact look_some t h
theorem look_none {f : String} : ∀ {fs : List (String × V)} {us : List (Str × V)}, Paired (FdR η) fs us → fs.lookup f = none → us.lookup (Str.ofString f) = none
  | _, _, .nil, h => rfl
  | (k, w) :: fs, (k', w') :: us, .cons r t, h => by
    obtain ⟨r1, r2⟩ := r
    dsimp only at r1 r2
    subst r1
    rw [List.lookup_cons] at h ⊢
    by_cases e : f = k
    · subst e
      rw [show (f == f) = true by simp] at h
      cases h
    · rw [show (f == k) = false by simpa using e] at h
      rw [show (Str.ofString f == Str.ofString k) = false by simpa using fun z => e (ofString_inj z)]
      exact look_none t h
def putS (f : String) (v : V) : List (String × V) → List (String × V)
  | [] => [(f, v)]
  | (g, x) :: r => if g = f then (g, v) :: r else (g, x) :: putS f v r
theorem putS_R {f : String} {v u : V} (rv : VR η v u) : ∀ {fs : List (String × V)} {us : List (Str × V)}, Paired (FdR η) fs us → Paired (FdR η) (putS f v fs) (putF (Str.ofString f) u us)
  | _, _, .nil => .cons ⟨rfl, rv⟩ .nil
  | (k, w) :: fs, (k', w') :: us, .cons r t => by
    obtain ⟨r1, r2⟩ := r
    dsimp only at r1 r2
    subst r1
    show Paired (FdR η) (if k = f then (k, v) :: fs else (k, w) :: putS f v fs) (if Str.ofString k = Str.ofString f then (Str.ofString k, u) :: us else (Str.ofString k, w') :: putF (Str.ofString f) u us)
    by_cases e : k = f
    · subst e
      rw [if_pos rfl, if_pos rfl]
      exact .cons ⟨rfl, rv⟩ t
    · rw [if_neg e, if_neg fun z => e (ofString_inj z)]
      exact .cons ⟨rfl, r2⟩ (putS_R rv t)
section
variable {X : Cx} {W : WX} {e o : Expr} {m mo mv : St → Sto → R V} {pos pos' : Pos}
/-! attributes -/
structure FldC (K : PySem.W.Frag) (c f : String) : Prop where
  ex : ∃ C, ClsN K c C ∧ Cls K C ∧ NoAttr K C (Str.ofString f)
def fldM (c f : String) : V → Sto → R V := fun x S => match rdIns x S with
  | some (c', fs) => if c' = c then (match fs.lookup f with
    | some v => .ok v S
    | none => .bad) else .bad
  | none => .bad
theorem fe_fld {c f : String} {g : Str} (hF : FldC X.K c f) (he : FE X W e m) (hf : g = Str.ofString f := by rfl) (hb : attributeBase e g X.env (eval e X.env) = eval e X.env := by rfl) : FE X W (.Attribute e g pos) (eU (fldM c f) m) :=
  ⟨PE.wk (pe_fld he.run hb) fun σ H Q h => by
    obtain ⟨η, S, σ0, hR, hS, p⟩ := h
    refine ⟨η, S, σ0, hR, hS, (Po.bind (rel := VR) p).imp fun u H1 ⟨η1, S1, v, e1, hR1, r1, p1⟩ => ?_⟩
    unfold fldM at p1
    split at p1
    · rename_i c' fs h
      split at p1
      · rename_i hc
        subst hc
        obtain ⟨n, a, C, dx, us, rfl, rfl, h1, h2, h3, h4, h5, h6⟩ := rdIns_ok h hR1 r1
        obtain ⟨C', d1, d2, d3⟩ := hF.ex
        obtain rfl := h3.inj d1
        split at p1
        · rename_i w hw
          obtain ⟨u, hu, ru⟩ := look_some h6 hw
          rw [hf]
          exact ⟨a, C, dx, us, u, rfl, h4, d2, d3, hu, p1.now hR1 ru⟩
        · exact p1.elim
      · exact p1.elim
    · exact p1.elim⟩
def sFl (c f : String) (mo mv : St → Sto → R V) : St → Sto → R Fl := fun σ S => sE (mv σ S) σ fun y S1 => sE (mo σ S1) σ fun x S2 => match x with
  | .ref n => match S2[n]? with
    | some (.ins c' fs) => if c' = c ∧ fs.length < 1000 then .ok (.nx σ) (S2.set n (.ins c (putS f y fs))) else .bad
    | _ => .bad
  | _ => .bad
theorem fs_fld {c f : String} {g : Str} {value : Expr} (hF : FldC X.K c f) (ho : FE X W o mo) (hv : FE X W value mv) (hf : g = Str.ofString f := by rfl) (hs : swapsWith value (some (.Attribute o g pos')) pos.line X.env = pure false := by rfl) :
    FS X W (.Assign [.Attribute o g pos'] value pos) (sFl c f mo mv) := ⟨PS.wk (ps_fld ho.run hv.run hs) fun D σ H h => by
  obtain ⟨η, S, σ0, hR, hS, p⟩ := h
  refine ⟨η, S, σ0, hR, hS, (PoS.expr (rel := VR) hS p).imp fun u H1 ⟨η1, S1, y, e1, hR1, r1, p1⟩ => ?_⟩
  refine ⟨η1, S1, σ0, hR1, hS.mono e1.1, (PoS.expr (rel := VR) (hS.mono e1.1) p1).imp fun u2 H2 ⟨η2, S2, x, e2, hR2, r2, p2⟩ => ?_⟩
  split at p2
  · rename_i n
    obtain ⟨a, ea, rfl⟩ := r2
    split at p2
    · rename_i c' fs ho
      split at p2
      · rename_i hc
        obtain ⟨rfl, hl⟩ := hc
        obtain ⟨C, dx, us, h1, h2, h3, h4⟩ := hR2.ob n a _ ea ho
        obtain ⟨C', d1, d2, d3⟩ := hF.ex
        have ec := ClsN.inj h1 d1
        subst ec
        have ne : dx ≠ a := fun z => by subst z; rw [h3] at h2; cases h2
        rw [hf]
        refine ⟨a, C, dx, us, rfl, h2, d2, d3, by rw [← h4.length]; exact hl, ?_⟩
        refine p2 η2 _ σ (Ext.set hR2 ea ho rfl) (hR2.set ea ho rfl (o' := .ins c' (putS f y fs)) ⟨C, dx, putF (Str.ofString f) u us, h1, upd_same, by rw [upd_ne ne]; exact h3, putS_R (r1.mono e2.1) h4⟩ rfl) (hS.mono (e1.1.trans e2.1))
      · exact p2.elim
    · exact p2.elim
  · exact p2.elim⟩
/-! C(..) -/
theorem passN (tk : Takes X W) : Passes (L2.CX X.prog X.w) X (fun _ _ _ => False) := passes_call tk fun _ _ _ _ h => h.elim
theorem Po.noxN {α β : Type} {rel : List Addr → α → β → Prop} {r : R α} {W W' : WX} {σ σ' : St} {mg mg' : Str → Option Value} {Q : β → Hp → Prop} (p : Po K mg W σ rel η H r.nox Q) : Po K mg' W' σ' rel η H r Q := by
  cases r with
  | ok v S' => exact p
  | exc c S' => exact p.elim
  | bad => exact p
structure MkC (P : Program) (w : World) (K : PySem.W.Frag) (mg : Str → Option Value) (base : Heap) (c : String) (k n : Nat) (m : List V → Sto → R V) : Prop where
  ex : ∃ (C f : Addr) (fd : FuncData) (ps : List Str), ClsN K c C ∧ mg (Str.ofString c) = some (.ref C) ∧ Mk K C f ∧ FnOk P w K mg base (L2.CX P w) k f fd ps (spM K mg (n + 1) m) ∧ Binds K fd ps []
def fin1 (n : Nat) : V → Sto → R V := fun v S => match v with
  | .non => .ok (.ref n) S
  | _ => .bad
def eMk (c : String) (n : Nat) (m : List V → Sto → R V) (ma : St → Sto → R (List V)) : St → Sto → R V := fun σ S => (ma σ S).bind fun vs S1 =>
  if vs.length = n then (m (.ref S1.length :: vs) (S1 ++ [.ins c []])).nox.bind (fin1 S1.length) else .bad
theorem fe_make {c : String} {x : Str} {p : Pos} {es : List Expr} {j k n : Nat} {m : List V → Sto → R V} {mr : St → Sto → R (List V)} (D : MkC X.prog X.w X.K X.mg X.base c k n m) (hr : Room j X.A) (hj : k + 1 ≤ j) (hg : Gl X x) (tk : Takes X W) (ha : FA X W (e :: es) mr)
    (hx : x = Str.ofString c := by rfl) (hdb : (x == ("__debug__" : Str)) = false := by decide)
    (he : starEach (e :: es) X.env = (false, eval e X.env) :: starEach es X.env := by rfl) (hpl : (backTo pos (starEach es X.env)).any (·.1) = false := by rfl) : FE X W (.Call (.Name x p) (e :: es) [] pos) (eMk c n m mr) := by
  obtain ⟨C, f, fd, ps, h1, h2, h3, h4, h5⟩ := D.ex
  refine ⟨PE.wk (pe_make h3 h4 (hr.mono hj) hg (by rw [hx]; exact h2) h5 .nil (passN tk) ha.run hdb he hpl) fun σ H Q h => ?_⟩
  obtain ⟨η, S, σ0, hR, hS, p⟩ := h
  refine ⟨η, S, σ0, hR, hS, (Po.bind (rel := VsR) p).imp fun us H1 ⟨η1, S1, vs, e1, hR1, r1, p1⟩ => ?_⟩
  intro x dx hx hdx ne
  by_cases hl : vs.length = n
  · rw [if_pos hl] at p1
    have hx' : (upd H1 dx (.own x)) x = none := by rw [upd_ne ne.symm]; exact hx
    have R2 := (hR1.side hdx (.own x)).new hx' (o := .ins c []) (u := .ins C dx []) ⟨C, dx, [], h1, upd_same, by rw [upd_ne ne, upd_same], .nil⟩ rfl
    have X2 : Ext η1 H1 (η1 ++ [x]) (upd (upd H1 dx (.own x)) x (.ins C dx [])) := (Ext.side hdx (.own x)).trans (Ext.new (hR1.side hdx (.own x)) hx' _)
    rw [List.append_nil]
    refine ⟨by simp [← r1.length, hl], η1 ++ [x], S1 ++ [.ins c []], .ref S1.length :: vs, R2, .cons (VR.new hR1) (r1.mono (List.prefix_append _ _)), ?_⟩
    refine Po.noxN (W := W) (σ := σ) (mg := X.mg) ((Po.bind (rel := VR) (Po.mono X2 p1)).imp fun u H3 ⟨η3, S3, v, e3, hR3, r3, p3⟩ => ?_)
    unfold fin1 at p3
    split at p3
    · refine ⟨r3, p3.now hR3 ?_⟩
      exact (VR.new hR1).mono e3.1
    · exact p3.elim
  · rw [if_neg hl] at p1; exact p1.elim
/-! o.m() -/
structure MeC (P : Program) (w : World) (K : PySem.W.Frag) (mg : Str → Option Value) (base : Heap) (c : String) (mn : String) (k : Nat) (m : List V → Sto → R V) : Prop where
  ex : ∃ (C f : Addr) (fd : FuncData) (ps : List Str), ClsN K c C ∧ Cls K C ∧ Meth K C (Str.ofString mn) f ∧ FnOk P w K mg base (L2.CX P w) k f fd ps (spM K mg 1 m) ∧ Binds K fd ps []
inductive MeT (P : Program) (w : World) (K : PySem.W.Frag) (mg : Str → Option Value) (base : Heap) (mn : String) (j : Nat) : List (String × (List V → Sto → R V)) → Prop
  | nil : MeT P w K mg base mn j []
  | cons {c : String} {k : Nat} {m : List V → Sto → R V} {tbl : List (String × (List V → Sto → R V))} (h : MeC P w K mg base c mn k m) (hk : k ≤ j) (t : MeT P w K mg base mn j tbl) : MeT P w K mg base mn j ((c, m) :: tbl)
theorem MeT.at {P : Program} {w : World} {mg : Str → Option Value} {base : Heap} {mn : String} {j : Nat} {c : String} {m : List V → Sto → R V} {tbl : List (String × (List V → Sto → R V))} (T : MeT P w K mg base mn j tbl) (h : tbl.lookup c = some m) : ∃ k, k ≤ j ∧ MeC P w K mg base c mn k m := by
  induction T with
  | nil => cases h
  | @cons c' k m' tbl' h1 hk t ih =>
    rw [List.lookup_cons] at h
    by_cases e : c = c'
    · subst e
      rw [show (c == c) = true by simp] at h
      cases h
      exact ⟨k, hk, h1⟩
    · rw [show (c == c') = false by simpa using e] at h
      exact ih h
def meM (mn : String) (tbl : List (String × (List V → Sto → R V))) : V → Sto → R V := fun x S => match rdIns x S with
  | some (c, fs) => match tbl.lookup c with
    | some m => match fs.lookup mn with
      | none => (m [x] S).nox
      | some _ => .bad
    | none => .bad
  | none => .bad
def eMe (mn : String) (tbl : List (String × (List V → Sto → R V))) (mo : St → Sto → R V) : St → Sto → R V := fun σ S => (mo σ S).nox.bind (meM mn tbl)
theorem fe_meth {mn : String} {g : Str} {apos : Pos} {pl : Sem Bool} {j : Nat} {tbl : List (String × (List V → Sto → R V))} (T : MeT X.prog X.w X.K X.mg X.base mn j tbl) (hr : Room j X.A) (tk : Takes X W) (ho : FE X W o mo) (hn : g = Str.ofString mn := by rfl)
    (ht : eval (.Call (.Attribute o g apos) [] [] pos) X.env = (do
      let ov ← eval o X.env
      standAt apos.atName
      let (f, first) ← holding [ov] (getMethod ov g pl)
      callWith pos f first (backTo pos (starEach [] X.env)) (backToKw pos (keywordEach [] X.env))) := by rfl) : FE X W (.Call (.Attribute o g apos) [] [] pos) (eMe mn tbl mo) := by
  refine ⟨⟨fun pins s σ H Q I h => ?_⟩⟩
  obtain ⟨η, S, σ0, hR, hS, p⟩ := h
  unfold eMe at p
  cases e : mo σ0 S with
  | bad => rw [e] at p; exact p.elim
  | exc c S1 => rw [e] at p; exact p.elim
  | ok x S1 =>
    rw [e] at p
    have p : Po X.K X.mg W σ VR η H (meM mn tbl x S1) Q := p
    unfold meM at p
    split at p
    · rename_i c fs hx
      split at p
      · rename_i m hm
        split at p
        · rename_i hf
          obtain ⟨k, hk, D⟩ := T.at hm
          obtain ⟨C, f, fd, ps, h1, h2, h3, h4, h5⟩ := D.ex
          refine (pe_meth0 (pl := pl) (dvs := []) ho.run h2 (by rw [hn]; exact h3) h4 (hr.mono hk) h5 .nil (passN tk) ht).run pins s σ H Q I ?_
          refine ⟨η, S, σ0, hR, hS, ?_⟩
          rw [e]
          intro η1 H1 u e1 hR1 r1
          obtain ⟨n, a, C', dx, us, rfl, rfl, g1, g2, g3, g4, g5, g6⟩ := rdIns_ok hx hR1 r1
          obtain rfl := g3.inj h1
          refine ⟨a, dx, us, rfl, g4, by rw [hn]; exact look_none g6 hf, ?_⟩
          exact ⟨rfl, η1, S1, [.ref n], hR1, .cons r1 .nil, Po.noxN (Po.mono e1 p)⟩
        · exact p.elim
      · exact p.elim
    · exact p.elim
/-! isinstance(x, D), x an instance -/
structure InsC (K : PySem.W.Frag) (mg : Str → Option Value) (D : String) (c : String) (b : Bool) : Prop where
  ex : ∃ C E : Addr, ClsN K c C ∧ mg (Str.ofString D) = some (.ref E) ∧ Cls K C ∧ PySem.W.findIn K (.ref C) "__class__" = some (some (.builtin "object.__class__")) ∧ PySem.W.specialIn K (.builtin "object.__class__") "__get__" = some (some (.builtin "getset_descriptor.__get__")) ∧
    PySem.W.takesIn K (.builtin "object.__class__") = some true ∧ PySem.W.mroIn K C (.type "object") = some true ∧ PySem.W.kitOne K (.ref C) (.ref E) = some b
inductive InsT (K : PySem.W.Frag) (mg : Str → Option Value) (D : String) : List (String × Bool) → Prop
  | nil : InsT K mg D []
  | cons {c : String} {b : Bool} {tbl : List (String × Bool)} (h : InsC K mg D c b) (t : InsT K mg D tbl) : InsT K mg D ((c, b) :: tbl)
theorem InsT.at {mg : Str → Option Value} {D c : String} {b : Bool} {tbl : List (String × Bool)} (T : InsT K mg D tbl) (h : tbl.lookup c = some b) : InsC K mg D c b := by
  induction T with
  | nil => cases h
  | @cons c' b' tbl' h1 t ih =>
    rw [List.lookup_cons] at h
    by_cases e : c = c'
    · subst e
      rw [show (c == c) = true by simp] at h
      cases h
      exact h1
    · rw [show (c == c') = false by simpa using e] at h
      exact ih h
def isoM (tbl : List (String × Bool)) : V → Sto → R V := fun x S => match rdIns x S with
  | some (c, _) => match tbl.lookup c with
    | some b => .ok (.bl b) S
    | none => .bad
  | none => .bad
def eIsO (tbl : List (String × Bool)) (mo : St → Sto → R V) : St → Sto → R V := fun σ S => (mo σ S).bind (isoM tbl)
theorem fe_isO {D : String} {x : Str} {p p2 : Pos} {tbl : List (String × Bool)} (T : InsT X.K X.mg D tbl) (hD : ∃ E, X.mg (Str.ofString D) = some (.ref E)) (hg : Gl X "isinstance") (hm : X.mg "isinstance" = none) (hb : bootBuiltins "isinstance" = some (.builtin "isinstance")) (ho : FE X W o mo) (hgx : Gl X x)
    (hx : x = Str.ofString D := by rfl) (hdb : (x == ("__debug__" : Str)) = false := by decide)
    (hs : starEach (o :: [.Name x p2]) X.env = (false, eval o X.env) :: starEach [.Name x p2] X.env := by rfl) (hs2 : starEach [.Name x p2] X.env = (false, eval (.Name x p2) X.env) :: starEach [] X.env := by rfl) (hpl : (backTo pos (starEach [.Name x p2] X.env)).any (·.1) = false := by rfl) :
    FE X W (.Call (.Name "isinstance" p) [o, .Name x p2] [] pos) (eIsO tbl mo) := by
  obtain ⟨E, hD⟩ := hD
  exact ⟨PE.wk (pe_callB call_isi hg hm hb (pa_cons ho.run (pa_cons (pe_glob (v := .ref E) hgx (by rw [hx]; exact hD) rfl hdb) pa_nil hs2) hs) (by decide) (by decide) hs hpl) fun σ H Q h => by
    obtain ⟨η, S, σ0, hR, hS, p⟩ := h
    refine ⟨η, S, σ0, hR, hS, (Po.bind (rel := VR) p).imp fun u H1 ⟨η1, S1, v, e1, hR1, r1, p1⟩ => ?_⟩
    unfold isoM at p1
    split at p1
    · rename_i c fs hi
      split at p1
      · rename_i b hb
        obtain ⟨n, a, C, dx, us, rfl, rfl, g1, g2, g3, g4, g5, g6⟩ := rdIns_ok hi hR1 r1
        obtain ⟨C', E', k1, k2, k3, k4, k5, k6, k7, k8⟩ := (T.at hb).ex
        obtain rfl := g3.inj k1
        have := hD.symm.trans k2
        cases this
        exact ⟨.ref a, .ref E, _, _, b, rfl, .own E, .base (.ins g4 k3 k4 k5 k6 k7), k8, p1.now hR1 rfl⟩
      · exact p1.elim
    · exact p1.elim⟩
/-! len(set(xs)), xs a list of whole numbers -/
theorem intsAreV : ∀ {ns : List Int} {us : List Value}, Vals (ns.map V.int) us → PyProof.Rows.IntsAre us ns
  | [], _, .nil => .nil
  | n :: ns, _, .cons r t => by
    obtain ⟨k, rfl⟩ := r
    exact .cons n k (intsAreV t)
def distinct (ns : List Int) : Nat := (PyProof.Rows.firstMet (fun i => ns.getD i 0) ns.length).length
def tLenSt (K : PySem.W.Frag) (ta : TE) : TE := fun σ H Q => ta σ H fun x H1 => ∃ (l : Addr) (ns : List Int), x = .ref l ∧ SqL K H1 l (ns.map V.int) ∧ ns.length ≤ 4000 ∧ Q (.int (distinct ns : Nat)) H1
theorem firstMet_le (ns : Nat → Int) : ∀ n, (PyProof.Rows.firstMet ns n).length ≤ n
  | 0 => Nat.le_of_eq rfl
  | n + 1 => by
    rw [PyProof.Rows.firstMet_succ]
    have ih := firstMet_le ns n
    unfold PyProof.Rows.step_dedup
    split
    · omega
    · rw [List.length_append]; simp; exact ih
theorem pe_lenSt {a : Expr} {ta : TE} {p p2 q : Pos} (hg : Gl X "len") (hm : X.mg "len" = none) (hg2 : Gl X "set") (hm2 : X.mg "set" = none) (ha : PE X a ta) (hc : X.calm = true := by rfl)
    (na : starEach [a] X.env = (false, eval a X.env) :: starEach [] X.env := by rfl) : PE X (.Call (.Name "len" p) [.Call (.Name "set" p2) [a] [] q] [] pos) (tLenSt X.K ta) := by
  refine ⟨fun pins s σ H Q I h => ?_⟩
  refine Call_ (ld_blt I hg hm boot_len ?_)
  refine PyProof.Rows.callWith_builtin1 (PyProof.Rows.args_cons ?_ rfl) rfl rfl
  refine Call_ (ld_blt I hg2 hm2 boot_set ?_)
  refine PyProof.Rows.callWith_type1 (PyProof.Rows.args_cons (thn (ha.run pins s σ H _ I h) fun v s1 ⟨x, H1, I1, r1, q1⟩ => PyProof.Rows.args_nil ?_) na) na rfl
  obtain ⟨l, ns, rfl, hq, hl, q1⟩ := q1
  cases r1
  obtain ⟨its, r, pl, hz⟩ := I1.list hq
  have hlen : its.toArray.size = ns.length := by rw [List.size_toArray, ← r.length, List.length_map]
  refine call_set_list (I1.ok.hd hc) pl.isList (by simpa using intsAreV r) (by rw [hlen]; unfold scanBound; omega) fun h' tk hS hk => ?_
  refine PyProof.Rows.args_nil ?_
  rw [hlen] at hS
  obtain ⟨o, es, ep, t, ho, hex, hd, _, _, _, hf, hn⟩ := hS
  have I2 : Inv X pins σ H1 { s1 with heap := h', toks := tk } := I1.kept fun b o e => hk b o (Heap.lt_size e) e
  have hb := firstMet_le (fun i => ns.getD i 0) ns.length
  exact call_len_set ho hex hd hf (by rw [hn] <;> omega) ⟨.int (distinct ns), H1, I2.tok _, ⟨_, by rw [hn]; rfl⟩, q1⟩
def lenStM : V → Sto → R V := fun x S => match rdI x S with
  | some ns => if ns.length ≤ 4000 then .ok (.int (distinct ns : Nat)) S else .bad
  | none => .bad
theorem fe_lenSt {a : Expr} {p p2 q : Pos} (hg : Gl X "len") (hm : X.mg "len" = none) (hg2 : Gl X "set") (hm2 : X.mg "set" = none) (ha : FE X W a m) (hc : X.calm = true := by rfl)
    (na : starEach [a] X.env = (false, eval a X.env) :: starEach [] X.env := by rfl) : FE X W (.Call (.Name "len" p) [.Call (.Name "set" p2) [a] [] q] [] pos) (eU lenStM m) := ⟨PE.wk (pe_lenSt hg hm hg2 hm2 ha.run hc na) fun σ H Q h => by
  obtain ⟨η, S, σ0, hR, hS, p⟩ := h
  refine ⟨η, S, σ0, hR, hS, (Po.bind (rel := VR) p).imp fun u H1 ⟨η1, S1, v, e1, hR1, r1, p1⟩ => ?_⟩
  unfold lenStM at p1
  split at p1
  · rename_i ns h
    split at p1
    · rename_i hl
      obtain ⟨a, rfl, hq, _⟩ := rdI_ok h hR1 r1
      exact ⟨a, ns, rfl, hq, hl, p1.now hR1 rfl⟩
    · exact p1.elim
  · exact p1.elim⟩
/-! xs.insert(i, y) -/
def insertM : V → List V → Sto → R V := fun x vs S => match vs with
  | [.int i, y] => if 0 ≤ i ∧ i ≤ 16777216 then chL x S (fun xs => if xs.length < lim then some (xs.take i.toNat ++ [y] ++ xs.drop i.toNat, .non) else none) else .bad
  | _ => .bad
theorem insertM_ok : MtM X (fun x vs H Q => ∃ (l : Addr) (xs : List V) (i : Int) (y : V), x = .ref l ∧ vs = [.int i, y] ∧ H l = some (.lst xs) ∧ xs.length < sizeLine ∧ 0 ≤ i ∧ i < 2 ^ 63 ∧ Q .non (upd H l (.lst (xs.take i.toNat ++ [y] ++ xs.drop i.toNat)))) insertM := by
  intro W σ η S H x u xs us Q hR rx rs p
  unfold insertM at p
  split at p
  · rename_i i y
    obtain ⟨v, w, rfl, rv, ry⟩ := VsR.two rs
    split at p
    · rename_i hi
      obtain ⟨n, a, xs, us, ys, w', rfl, rfl, e, r, hf, hl, q⟩ := chL_ok hR rx p
      split at hf
      · rename_i hlt
        cases hf
        cases (show v = V.int i from rv)
        have : i < 2 ^ 63 := Int.lt_of_le_of_lt hi.2 (by decide)
        refine ⟨a, us, i, w, rfl, rfl, e, by rw [← r.length]; exact hlt, hi.1, this, q _ _ (papp (papp (ptake _ r) (.cons ry .nil)) (pdrop _ r)) rfl ?_⟩
        have hlt : xs.length < sizeLine := hlt
        rw [List.length_append, List.length_append, List.length_take, List.length_drop, List.length_singleton]
        omega
      · cases hf
    · exact p.elim
  · exact p.elim
/-! min of four whole numbers -/
def min4 (a b c d : Int) : Int := let m := if b < a then b else a; let m := if c < m then c else m; if d < m then d else m
theorem args_min4 (a b c d : Value) : argsOk "min" ⟨[a, b, c, d], []⟩ := by unfold argsOk; kernel_rfl
section
variable {prog : Program} {w : World} {A : Around} {E : Value → Shared → Prop} {s : Shared}
theorem min4_walk {a b c d : Value} {Q : Value → Shared → Prop}
    (h : wpAny (model prog w) A.in1 (pyIter (.ref s.heap.objs.size)) (fun it s₂ => ∃ I fp wr n P St bt, it = .ref I ∧ Walks prog w A.in1 I fp wr n P St ∧ St 0 s₂.heap ∧ (∀ b ∈ fp, b < s₂.heap.objs.size) ∧ 0 < n ∧ CmpOf prog w A.in1 .Lt P bt ∧
      ∀ v h' tk, P (argBest bt (n - 1)) v → (∀ b o, b ∉ wr → s₂.heap.get? b = some o → h'.get? b = some o) → Q v { s₂ with heap := h', toks := tk }) E
      { s with heap := s.heap.push { cls := .type "tuple", data := .seq #[a, b, c, d] } }) :
    wpAny (model prog w) A (call (.builtin "min") [a, b, c, d]) Q E s := by
  have nm : (toString "min" ++ toString ".loop" : String) = "min.loop" := by decide
  refine call_function_tree F.kind_min F.plain_min F.entry_min (args_min4 _ _ _ _) ?_
  show wpAny _ A.in1 (Builtin.Builtins.bindParams "min" ["key", "default"] 0 ⟨[], []⟩ >>= _) _ _ s
  refine wpAny_bind (wpAny_of_eq (show Builtin.Builtins.bindParams "min" ["key", "default"] 0 ⟨[], []⟩ = pure [none, none] from rfl) ?_)
  show wpAny _ A.in1 (newTuple [a, b, c, d] >>= _) _ _ s
  refine wpAny_bind (wpAny_newObj_type (wpAny_bind (wpAny_mono h (fun it s₂ g => ?_) fun _ _ e => e)))
  obtain ⟨I, fp, wr, n, P, St, bt, rfl, W, hst, hfp, hn, hcmp, hQ⟩ := g
  refine wpAny_bind (wpAny_newObj_type ?_)
  have no : s₂.heap.objs.size ∉ fp := fun hm => Nat.lt_irrefl _ (hfp _ hm)
  rw [nm]
  refine wpAny_pure ⟨plainId_quiet F.plain_min_loop _, ?_⟩
  refine codeAny_min_loop_first W bt hcmp s₂.heap.objs.size no hn (W.frame _ _ _ hst fun b _ o e => Heap.get?_push_of_some _ e) (Heap.get?_push_size _ rfl) fun v h' tk hP hk => ?_
  exact hQ v h' tk hP fun b o hbw e => hk b o hbw (Nat.ne_of_lt (Heap.lt_size e)) (Heap.get?_push_of_some _ e)
theorem min4_ints {a b c d : Int} {t u x y : Tok} {Q : Value → Shared → Prop} (hh : A.handled = none)
    (h : ∀ h' tk z, (∀ d o, s.heap.get? d = some o → h'.get? d = some o) → Q (.int (min4 a b c d) z) { s with heap := h', toks := tk }) :
    wpAny (model prog w) A (call (.builtin "min") [.int a t, .int b u, .int c x, .int d y]) Q E s := by
  have hT : (s.heap.push { cls := .type "tuple", data := .seq #[.int a t, .int b u, .int c x, .int d y] }).IsTuple s.heap.objs.size (intItems #[(a, t), (b, u), (c, x), (d, y)]) := ⟨_, Heap.get?_push_size _ rfl, rfl, 0, by simp [intItems]⟩
  refine min4_walk (wpAny_pyIter_tuple hT ?_)
  have hz : (s.heap.push { cls := .type "tuple", data := .seq #[.int a t, .int b u, .int c x, .int d y] }).objs.size = s.heap.objs.size + 1 := Heap.size_push ..
  refine ⟨_, [_, s.heap.objs.size], [_], _, _, _, _, rfl, Walks.tuple (A := A.in1) hh _ s.heap.objs.size (by rw [hz]; exact Nat.ne_of_lt (Nat.lt_succ_self _)) (intItems #[(a, t), (b, u), (c, x), (d, y)]),
    ⟨⟨_, Heap.get?_push_size _ rfl, rfl, rfl⟩, hT.push _⟩, fun q hq => ?_, by simp [intItems], CmpOf.ints_lt (numAt #[(a, t), (b, u), (c, x), (d, y)]) (fun _ _ => intItems_at), fun v h' tk hP hk => ?_⟩
  · show q < ((s.heap.push _).push _).objs.size
    rw [Heap.size_push, hz]
    simp only [List.mem_cons, List.not_mem_nil, or_false] at hq
    rcases hq with rfl | rfl
    · rw [hz]; exact Nat.lt_succ_self _
    · exact Nat.lt_succ_of_lt (Nat.lt_succ_self _)
  · have old : ∀ q o, s.heap.get? q = some o → h'.get? q = some o := fun q o e => by
      refine hk q o (fun hm => ?_) (Heap.get?_push_of_some _ (Heap.get?_push_of_some _ e))
      have lt := Heap.lt_size e
      rw [List.mem_singleton, hz] at hm
      rw [hm] at lt
      exact Nat.lt_irrefl _ (Nat.lt_of_succ_lt lt)
    have n3 : (intItems #[(a, t), (b, u), (c, x), (d, y)]).size - 1 = 3 := by simp [intItems]
    have hP' : (intItems #[(a, t), (b, u), (c, x), (d, y)])[argBest (fun i j => decide (numAt #[(a, t), (b, u), (c, x), (d, y)] i < numAt #[(a, t), (b, u), (c, x), (d, y)] j)) 3]? = some v := by
      rw [← n3]; exact hP
    have hv : ∃ z, v = .int (min4 a b c d) z := by
      by_cases h1 : b < a
      · by_cases h2 : c < b
        · by_cases h3 : d < c <;> simp [argBest, numAt, intItems, h1, h2, h3] at hP' <;> simp [min4, h1, h2, h3, ← hP']
        · by_cases h3 : d < b <;> simp [argBest, numAt, intItems, h1, h2, h3] at hP' <;> simp [min4, h1, h2, h3, ← hP']
      · by_cases h2 : c < a
        · by_cases h3 : d < c <;> simp [argBest, numAt, intItems, h1, h2, h3] at hP' <;> simp [min4, h1, h2, h3, ← hP']
        · by_cases h3 : d < a <;> simp [argBest, numAt, intItems, h1, h2, h3] at hP' <;> simp [min4, h1, h2, h3, ← hP']
    obtain ⟨z, rfl⟩ := hv
    exact h h' tk z old
end
def rMin4 : List V → Hp → VK → Prop := fun xs H Q => ∃ a b c d, xs = [.int a, .int b, .int c, .int d] ∧ Q (.int (min4 a b c d)) H
theorem cr_min4 (hc : X.calm = true) : CallR X (.builtin "min") rMin4 := by
  intro pins s σ H xs us Q I r h
  obtain ⟨a, b, c, d, rfl, q⟩ := h
  cases r with
  | cons r1 r =>
    cases r with
    | cons r2 r =>
      obtain ⟨u3, u4, rfl, ⟨t3, rfl⟩, ⟨t4, rfl⟩⟩ := vals2 r
      obtain ⟨t1, rfl⟩ := r1
      obtain ⟨t2, rfl⟩ := r2
      exact min4_ints (I.ok.hd hc) fun h' tk z k => ⟨.int (min4 a b c d), H, I.kept k, ⟨z, rfl⟩, q⟩
def min4M : List V → Sto → R V := fun vs S => match vs with
  | [.int a, .int b, .int c, .int d] => .ok (.int (min4 a b c d)) S
  | _ => .bad
theorem min4M_ok : CallM X rMin4 min4M := by
  intro W σ η S H xs us Q hR hx p
  unfold min4M at p
  split at p
  · rename_i a b c d
    refine ⟨a, b, c, d, ?_, p.now hR rfl⟩
    cases hx with
    | cons r1 hx =>
      cases hx with
      | cons r2 hx =>
        rw [VsR.int2 hx]
        cases (show _ = V.int a from r1)
        cases (show _ = V.int b from r2)
        rfl
  · exact p.elim
/-! two targets of any kind -/
def gT2 (t1 t2 : V → St → Sto → R St) : V → St → Sto → R St := fun v σ S => match rdT v S with
  | some [x, y] => (t1 x σ S).bind fun σ1 S1 => (t2 y σ1 S1).nox
  | _ => .bad
theorem fg_two {e1 e2 : Expr} {t1 t2 : V → St → Sto → R St} {k : Nat} (hc : X.calm = true) (h1 : FG X W e1 t1) (h2 : FG X W e2 t2) (hn : (assignEach [e1, e2] X.env).length = 2 := by rfl) (hst : (assignEach [e1, e2] X.env).findIdx? (·.1) = none := by rfl)
    (hs : (assignEach [e1, e2] X.env).map (·.2) = assign e1 X.env :: (assignEach [e2] X.env).map (·.2) := by rfl) (hs2 : (assignEach [e2] X.env).map (·.2) = assign e2 X.env :: (assignEach [] X.env).map (·.2) := by rfl) : FG X W (.Tuple [e1, e2] k pos) (gT2 t1 t2) := by
  obtain ⟨g1, p1, q1⟩ := h1.run
  obtain ⟨g2, p2, q2⟩ := h2.run
  refine ⟨_, pg_tup (n := 2) hc (pgs_cons p1 (pgs_cons p2 pgs_nil hs2) hs) hn hst, fun η S H σ0 σ x u Q hR hS r p => ?_⟩
  unfold gT2 at p
  split at p
  · rename_i a b hx
    obtain ⟨A, us, rfl, e2, r2, z⟩ := rdT_ok hx hR r
    obtain ⟨u1, u2, rfl, ra, rb⟩ := VsR.two r2
    refine ⟨A, [u1, u2], rfl, SqT.of e2, rfl, u1, [u2], rfl, ?_⟩
    refine q1 η S H σ0 σ a u1 _ hR hS ra ((Po.bind (rel := SR) p).imp fun σ2 H2 ⟨η2, S2, σ3, e3, hR2, hS2, p2⟩ => ?_)
    exact ⟨u2, [], rfl, q2 η2 S2 H2 σ3 σ2 b u2 _ hR2 hS2 (rb.mono e3.1) ((Po.noxN (W' := W) (σ' := σ2) (mg' := X.mg) p2).imp fun _ _ q => ⟨rfl, q⟩)⟩
  · exact p.elim
end
theorem kit_by2 {K : PySem.W.Frag} {C D : Addr} {b : Bool} (h2 : PySem.W.hasDictIn K D = true) (h3 : PySem.W.typeIn K (.ref D) = some (.type "type")) (h4 : PySem.W.subIn K (.ref C) (.ref D) = some b) (h5 : PySem.W.subIn K (.ref C) (.ref C) = some true) :
    PySem.W.kitOne K (.ref C) (.ref D) = some b := by
  unfold PySem.W.kitOne
  by_cases hCD : C = D
  · subst hCD
    rw [h5] at h4
    cases h4
    rw [if_pos (by simp)]
  · rw [if_neg (by simpa using hCD)]
    obtain ⟨cd, hc, _⟩ := PySem.W.any_some h2
    show (if ((PySem.W.clsIn K D).isSome && PySem.W.typeIn K (.ref D) == some (.type "type")) = true then PySem.W.subIn K (.ref C) (.ref D) else none) = some b
    rw [hc, h3]
    exact h4
end Fx
/-! Fx: list(zip(xs, ys)): a new list of new tuples. -/
namespace Z2
open PySem PySem.Spec PyProof.Rows
theorem zip_no_len : typeLookup (.type "zip") "__len__" = pure none := by rw [typeLookup_type, builtinLookup_eq_fast]; kernel_rfl
theorem zip_no_hint : typeLookup (.type "zip") "__length_hint__" = pure none := by rw [typeLookup_type, builtinLookup_eq_fast]; kernel_rfl
abbrev IsZipF (h : Heap) (z TI TO : Addr) (f0 : Value) (f1 : Bool) : Prop :=
  h.get? z = some { cls := .type "zip", dict := none, data := .fields #[f0, .bool f1, .bool false, .ref TI, .ref TO], slots := #[] }
section
variable {prog : Program} {w : World} {A : Around} {E : Value → Shared → Prop} {s : Shared}
theorem alive {a : Addr} {Q : Option Obj → Shared → Prop} (h : Q (s.heap.get? a) s) : wpAny (model prog w) A (loadIfAlive a) Q E s := fun Γ p _ => by
  unfold loadIfAlive
  simp only [Sem.wp_loadIfAlive]
  exact h
theorem next_again {z TI TO i1 i2 l1 l2 T : Addr} {f1 : Bool} {o : Obj} {k1 k2 : Nat} {xs ys : Array Value} {x y : Value} {Q : Value → Shared → Prop} (D : ZipApart z TI TO i1 i2 l1 l2)
    (hz : IsZipF s.heap z TI TO (rawInt T) f1) (hTt : s.heap.get? T = some o) (hTI : IsPair s.heap TI (.ref i1) (.ref i2))
    (h1 : s.heap.IsListIter i1 l1 k1) (h2 : s.heap.IsListIter i2 l2 k2) (hl1 : s.heap.IsList l1 xs) (hl2 : s.heap.IsList l2 ys) (hx : xs[k1]? = some x) (hy : ys[k2]? = some y)
    (hQ : ∀ h', IsZipF h' z TI TO (rawInt T) true → h'.IsListIter i1 l1 (k1 + 1) → h'.IsListIter i2 l2 (k2 + 1) → IsPair h' s.heap.objs.size x y →
      (∀ c o, c ≠ z → c ≠ i1 → c ≠ i2 → s.heap.get? c = some o → h'.get? c = some o) → Q (.ref s.heap.objs.size) { s with heap := h' }) :
    wpAny (model prog w) A (Builtin.«zip.__next__» ⟨[.ref z], []⟩) (fun fin s' => ∃ v, fin = .done (.ret v) ∧ Q v s') E s := by
  show wpAny _ _ (field (.ref z) 2 >>= _) _ _ _
  refine wpAny_bind (wpAny_field hz rfl (x := .bool false) rfl ?_)
  show wpAny _ _ (field (.ref z) 3 >>= _) _ _ _
  refine wpAny_bind (wpAny_field hz rfl (x := .ref TI) rfl ?_)
  refine wpAny_bind (wpAny_seqItems hTI rfl ?_)
  show wpAny _ _ (Builtin.SmallTypes.ownedTupleIsFree (.ref z) >>= _) _ _ _
  refine wpAny_bind ?_
  unfold Builtin.SmallTypes.ownedTupleIsFree
  refine wpAny_bind (wpAny_field hz rfl (x := rawInt T) rfl ?_)
  show wpAny _ _ (loadIfAlive T >>= _) _ _ _
  refine wpAny_bind (alive ?_)
  rw [hTt]
  simp only [Option.isNone_some, Bool.false_eq_true, if_false]
  refine wpAny_bind (wpAny_field hz rfl (x := .bool f1) rfl ?_)
  refine wpAny_mono (Q := fun a s' => a = false ∧ ∃ h₁, s' = { s with heap := h₁ } ∧ IsZipF h₁ z TI TO (rawInt T) true ∧ Heap.SameBut z s.heap h₁) ?fst (fun a s' hq => ?snd) (fun _ _ h => h)
  case fst =>
    cases f1 with
    | false =>
      show wpAny _ _ (setField (.ref z) 1 (.bool true) >>= fun _ => pure false) _ _ _
      exact wpAny_bind (wpAny_setField_rec hz (by simp) fun h₁ hz₁ hs₁ => wpAny_pure ⟨rfl, h₁, rfl, hz₁, hs₁⟩)
    | true => exact wpAny_pure ⟨rfl, s.heap, rfl, hz, rfl, fun _ _ => rfl⟩
  case snd =>
    obtain ⟨rfl, h₁, rfl, hz₁, hs₁⟩ := hq
    simp only [Bool.false_eq_true, if_false]
    refine wpAny_bind ?_
    rw [show (#[Value.ref i1, Value.ref i2] : Array Value) = [Value.ref i1, Value.ref i2].toArray from rfl]
    simp only [List.forIn_toArray, List.forIn_cons, List.forIn_nil]
    refine wpAny_bind (wpAny_bind (wpAny_holding ?_))
    show wpAny _ _ (Builtin.SmallTypes.nextOf (.ref i1) >>= _) _ _ _
    refine wpAny_bind (wpAny_nextOf_list_item (h1.extBut hs₁.extBut D.i1z) (hl1.extBut hs₁.extBut D.l1z) hx fun h₂ h1₂ hs₂ => wpAny_pure (wpAny_pure ?_))
    refine wpAny_bind (wpAny_bind (wpAny_holding ?_))
    show wpAny _ _ (Builtin.SmallTypes.nextOf (.ref i2) >>= _) _ _ _
    refine wpAny_bind (wpAny_nextOf_list_item ((h2.extBut hs₁.extBut D.i2z).extBut hs₂.extBut D.i12.symm) ((hl2.extBut hs₁.extBut D.l2z).extBut hs₂.extBut D.l2i1) hy fun h₃ h2₃ hs₃ => wpAny_pure (wpAny_pure (wpAny_pure ?_)))
    refine wpAny_bind (wpAny_newTuple (hsz := by show 2 ≤ sizeLine; decide) ?_)
    have hsz : h₃.objs.size = s.heap.objs.size := by rw [hs₃.1, hs₂.1, hs₁.1]
    have hz₃ : IsZipF h₃ z TI TO (rawInt T) true := hs₃.extBut _ _ D.i2z.symm (hs₂.extBut _ _ D.i1z.symm hz₁)
    have hk₃ : ∀ c o, c ≠ z → c ≠ i1 → c ≠ i2 → s.heap.get? c = some o → h₃.get? c = some o := fun c o c1 c3 c4 e => hs₃.extBut _ _ c4 (hs₂.extBut _ _ c3 (hs₁.extBut _ _ c1 e))
    have h1₃ : h₃.IsListIter i1 l1 (k1 + 1) := h1₂.extBut hs₃.extBut D.i12
    have up : ∀ c o, h₃.get? c = some o → (h₃.push { cls := .type "tuple", data := .seq #[x, y] }).get? c = some o := fun c o e => Heap.get?_push_of_some _ e
    refine wpAny_pure ⟨_, rfl, ?_⟩
    show Q (.ref h₃.objs.size) _
    rw [hsz]
    have hT₃ : IsPair (h₃.push { cls := .type "tuple", data := .seq #[x, y] }) h₃.objs.size x y := Heap.get?_push_size _ rfl
    rw [hsz] at hT₃
    exact hQ _ (up _ _ hz₃) (h1₃.at fun o e => up _ o e) (h2₃.at fun o e => up _ o e) hT₃ fun c o c1 c3 c4 e => up c o (hk₃ c o c1 c3 c4 e)
theorem end_again {z TI TO i1 i2 l1 l2 T : Addr} {f1 : Bool} {o : Obj} {k1 k2 : Nat} {xs ys : Array Value} {Q : Fin → Shared → Prop} (hh : A.handled = none) (D : ZipApart z TI TO i1 i2 l1 l2)
    (hz : IsZipF s.heap z TI TO (rawInt T) f1) (hTt : s.heap.get? T = some o) (hTI : IsPair s.heap TI (.ref i1) (.ref i2))
    (h1 : s.heap.IsListIter i1 l1 k1) (h2 : s.heap.IsListIter i2 l2 k2) (hl1 : s.heap.IsList l1 xs) (hl2 : s.heap.IsList l2 ys) (hend : xs[k1]? = none ∨ ys[k2]? = none)
    (hE : ∀ h' e, (∀ c o, c ≠ z → c ≠ i1 → c ≠ i2 → s.heap.get? c = some o → h'.get? c = some o) → (∃ o, h'.get? e = some o ∧ o.cls = .type "StopIteration") → E (.ref e) { s with heap := h' }) :
    wpAny (model prog w) A (Builtin.«zip.__next__» ⟨[.ref z], []⟩) Q E s := by
  show wpAny _ _ (field (.ref z) 2 >>= _) _ _ _
  refine wpAny_bind (wpAny_field hz rfl (x := .bool false) rfl ?_)
  show wpAny _ _ (field (.ref z) 3 >>= _) _ _ _
  refine wpAny_bind (wpAny_field hz rfl (x := .ref TI) rfl ?_)
  refine wpAny_bind (wpAny_seqItems hTI rfl ?_)
  show wpAny _ _ (Builtin.SmallTypes.ownedTupleIsFree (.ref z) >>= _) _ _ _
  refine wpAny_bind ?_
  unfold Builtin.SmallTypes.ownedTupleIsFree
  refine wpAny_bind (wpAny_field hz rfl (x := rawInt T) rfl ?_)
  show wpAny _ _ (loadIfAlive T >>= _) _ _ _
  refine wpAny_bind (alive ?_)
  rw [hTt]
  simp only [Option.isNone_some, Bool.false_eq_true, if_false]
  refine wpAny_bind (wpAny_field hz rfl (x := .bool f1) rfl ?_)
  refine wpAny_mono (Q := fun a s' => a = false ∧ ∃ h₁, s' = { s with heap := h₁ } ∧ IsZipF h₁ z TI TO (rawInt T) true ∧ Heap.SameBut z s.heap h₁) ?fst (fun a s' hq => ?snd) (fun _ _ h => h)
  case fst =>
    cases f1 with
    | false =>
      show wpAny _ _ (setField (.ref z) 1 (.bool true) >>= fun _ => pure false) _ _ _
      exact wpAny_bind (wpAny_setField_rec hz (by simp) fun h₁ hz₁ hs₁ => wpAny_pure ⟨rfl, h₁, rfl, hz₁, hs₁⟩)
    | true => exact wpAny_pure ⟨rfl, s.heap, rfl, hz, rfl, fun _ _ => rfl⟩
  case snd =>
    obtain ⟨rfl, h₁, rfl, hz₁, hs₁⟩ := hq
    simp only [Bool.false_eq_true, if_false]
    refine wpAny_bind ?_
    rw [show (#[Value.ref i1, Value.ref i2] : Array Value) = [Value.ref i1, Value.ref i2].toArray from rfl]
    simp only [List.forIn_toArray, List.forIn_cons, List.forIn_nil]
    refine wpAny_bind (wpAny_bind (wpAny_holding ?_))
    show wpAny _ _ (Builtin.SmallTypes.nextOf (.ref i1) >>= _) _ _ _
    cases hx : xs[k1]? with
    | none =>
      refine wpAny_bind (wpAny_nextOf_list_end hh (h1.extBut hs₁.extBut D.i1z) (hl1.extBut hs₁.extBut D.l1z) hx fun h₂ e hs₂ he => ?_)
      exact hE h₂ e (fun c o c1 c3 _ x => hs₂ _ _ c3 (hs₁.extBut _ _ c1 x)) he
    | some x =>
      have hy : ys[k2]? = none := by rcases hend with h | h; rw [hx] at h; cases h; exact h
      refine wpAny_bind (wpAny_nextOf_list_item (h1.extBut hs₁.extBut D.i1z) (hl1.extBut hs₁.extBut D.l1z) hx fun h₂ h1₂ hs₂ => wpAny_pure (wpAny_pure ?_))
      refine wpAny_bind (wpAny_bind (wpAny_holding ?_))
      show wpAny _ _ (Builtin.SmallTypes.nextOf (.ref i2) >>= _) _ _ _
      refine wpAny_bind (wpAny_nextOf_list_end hh ((h2.extBut hs₁.extBut D.i2z).extBut hs₂.extBut D.i12.symm) ((hl2.extBut hs₁.extBut D.l2z).extBut hs₂.extBut D.l2i1) hy fun h₃ e hs₃ he => ?_)
      exact hE h₃ e (fun c o c1 c3 c4 x => hs₃ _ _ c4 (hs₂.extBut _ _ c3 (hs₁.extBut _ _ c1 x))) he
theorem pyNext_again {z TI TO i1 i2 l1 l2 T : Addr} {f1 : Bool} {o : Obj} {k1 k2 : Nat} {xs ys : Array Value} {x y : Value} {Q : Option Value → Shared → Prop} (D : ZipApart z TI TO i1 i2 l1 l2)
    (hz : IsZipF s.heap z TI TO (rawInt T) f1) (hTt : s.heap.get? T = some o) (hTI : IsPair s.heap TI (.ref i1) (.ref i2))
    (h1 : s.heap.IsListIter i1 l1 k1) (h2 : s.heap.IsListIter i2 l2 k2) (hl1 : s.heap.IsList l1 xs) (hl2 : s.heap.IsList l2 ys) (hx : xs[k1]? = some x) (hy : ys[k2]? = some y)
    (hQ : ∀ h', IsZipF h' z TI TO (rawInt T) true → h'.IsListIter i1 l1 (k1 + 1) → h'.IsListIter i2 l2 (k2 + 1) → IsPair h' s.heap.objs.size x y →
      (∀ c o, c ≠ z → c ≠ i1 → c ≠ i2 → s.heap.get? c = some o → h'.get? c = some o) → Q (some (.ref s.heap.objs.size)) { s with heap := h' }) :
    wpAny (model prog w) A (pyNext (.ref z)) Q E s := by
  have hT : s.TypeIs (.ref z) "zip" := ⟨_, hz, rfl⟩
  unfold pyNext
  exact wpAny_bind (wpAny_attempt (wpAny_callSpecial?_slot (name := Str.ofString "__next__") hT F.slot_zip_next
    (wpAny_call_entry F.slot_zip_next hT F.entry_zip_next
      (next_again D hz hTt hTI h1 h2 hl1 hl2 hx hy fun h' a1 a2 a3 a4 a5 => wpAny_pure (hQ h' a1 a2 a3 a4 a5)) (F.args_zip_next_1 _))))
theorem pyEnd_again {z TI TO i1 i2 l1 l2 T : Addr} {f1 : Bool} {o : Obj} {k1 k2 : Nat} {xs ys : Array Value} {Q : Option Value → Shared → Prop} (hh : A.handled = none) (D : ZipApart z TI TO i1 i2 l1 l2)
    (hz : IsZipF s.heap z TI TO (rawInt T) f1) (hTt : s.heap.get? T = some o) (hTI : IsPair s.heap TI (.ref i1) (.ref i2))
    (h1 : s.heap.IsListIter i1 l1 k1) (h2 : s.heap.IsListIter i2 l2 k2) (hl1 : s.heap.IsList l1 xs) (hl2 : s.heap.IsList l2 ys) (hend : xs[k1]? = none ∨ ys[k2]? = none)
    (hQ : ∀ h', (∀ c o, c ≠ z → c ≠ i1 → c ≠ i2 → s.heap.get? c = some o → h'.get? c = some o) → Q none { s with heap := h' }) : wpAny (model prog w) A (pyNext (.ref z)) Q E s := by
  have hT : s.TypeIs (.ref z) "zip" := ⟨_, hz, rfl⟩
  unfold pyNext
  refine wpAny_bind (wpAny_attempt (wpAny_callSpecial?_slot (name := Str.ofString "__next__") hT F.slot_zip_next
    (wpAny_call_entry F.slot_zip_next hT F.entry_zip_next (end_again hh D hz hTt hTI h1 h2 hl1 hl2 hend fun h' e hk he => ?_) (F.args_zip_next_1 _))))
  obtain ⟨o, ho, hc⟩ := he
  refine wpAny_bind (wpAny_isInstance (T := "StopIteration") (b := true) ⟨o, ho, hc⟩ isSubtype_stop ?_)
  exact wpAny_pure (hQ _ hk)
end
end Z2
namespace Z2
open PySem PySem.Spec PyProof.Rows
section
variable {prog : Program} {w : World} {A : Around} {E : Value → Shared → Prop} {s : Shared}
theorem call_list_zip {z TI TO : Addr} {Q : Value → Shared → Prop} (hz : IsZip s.heap z TI TO .none)
    (h : ∀ h' c (R : Result → Shared → Prop), (∀ b o, s.heap.get? b = some o → h'.get? b = some o) → h'.get? s.heap.objs.size = some { cls := .type "list", dict := none, data := .seq #[] c, slots := #[] } → (∀ s', Q (.ref s.heap.objs.size) s' → R (.ok (.ret .none)) s') →
      codeAny (model prog w) A.in1 (.builtin "list.extend.loop" ⟨[.ref s.heap.objs.size, .ref z, .none], []⟩) R { s with heap := h' }) :
    wpAny (model prog w) A (call (.type "list") [.ref z]) Q E s := by
  have hSz : s.heap.objs.size ≠ z := Nat.ne_of_gt (Heap.lt_size hz)
  refine callType_codes (Q₁ := fun obj s₁ => obj = .ref s.heap.objs.size ∧ s₁ = { s with heap := s.heap.push { cls := .type "list", data := .seq #[] } }) PySem.F.called_list (PySem.F.typeCall_list_1 _) PySem.F.entry_list_init (code_list_new _ ⟨rfl, rfl⟩) fun obj s₁ h₁ => ?_
  obtain ⟨rfl, rfl⟩ := h₁
  have hS : (s.heap.push { cls := .type "list", data := .seq #[] }).get? s.heap.objs.size = some { cls := .type "list", data := .seq #[] } := Heap.get?_push_size _ rfl
  refine ⟨⟨_, hS, rfl⟩, PySem.F.args_list_init_2 _ _, ?_⟩
  show wpAny _ _ (do let old ← Builtin.List.listItems (.ref s.heap.objs.size); Builtin.List.listUpdate (.ref s.heap.objs.size) (fun _ => #[]); letGo old.toList.reverse; Builtin.List.listExtendWith (.ref s.heap.objs.size) (.ref z) .none) _ _ _
  refine wpAny_bind ?_
  unfold Builtin.List.listItems
  refine wpAny_bind (wpAny_seqItems hS rfl (wpAny_pure ?_))
  show wpAny _ _ (updateSeq s.heap.objs.size (fun _ => #[]) >>= fun _ => letGo (#[] : Array Value).toList.reverse >>= fun _ => Builtin.List.listExtendWith (.ref s.heap.objs.size) (.ref z) .none) _ _ _
  refine wpAny_bind (wpAny_updateSeq hS rfl ?_)
  have hS2 := Heap.get?_update_self (Obj.mapSeq (fun _ => (#[] : Array Value))) hS rfl
  refine wpAny_bind (wpAny_letGo ?_)
  unfold Builtin.List.listExtendWith
  have up : ∀ (h : Heap) (f : Obj → Obj), (∀ b o, s.heap.get? b = some o → h.get? b = some o) → ∀ b o, s.heap.get? b = some o → (h.update s.heap.objs.size f).get? b = some o := fun h f q b o e =>
    (Heap.get?_update_other _ _ (Ne.symm (Nat.ne_of_lt (Heap.lt_size e)))).trans (q b o e)
  have k1 : ∀ b o, s.heap.get? b = some o → (s.heap.push { cls := .type "list", data := .seq #[] }).get? b = some o := fun b o e => Heap.get?_push_of_some _ e
  have k2 := up _ (Obj.mapSeq (fun _ => (#[] : Array Value))) k1
  have hz2 := k2 _ _ hz
  have hT : ∀ {h : Heap}, (∀ b o, s.heap.get? b = some o → h.get? b = some o) → Shared.TypeIs { s with heap := h } (.ref z) "zip" := fun {h} k => ⟨_, k _ _ hz, rfl⟩
  refine wpAny_bind (wpAny_typeOf (hT k2) ?_)
  have h1 : Builtin.List.listSameRef (.ref s.heap.objs.size) (.ref z) = false := by simp [Builtin.List.listSameRef, hSz]
  have h2 : (Value.type "zip" == Value.type "list") = false := by decide
  have h3 : (Value.type "zip" == Value.type "tuple") = false := by decide
  simp only [h1, h2, h3, Bool.or_false, Bool.false_eq_true, if_false]
  refine wpAny_bind (wpAny_pyIter_zip (s := { s with heap := _ }) hz2 ?_)
  refine wpAny_bind (wpAny_holding ?_)
  unfold Builtin.List.listLengthHint
  refine wpAny_bind (wpAny_specialOf (hT k2) zip_no_len ?_)
  show wpAny _ _ (specialOf (Value.ref z) (Str.ofString "__length_hint__") >>= _) _ _ _
  refine wpAny_bind (wpAny_specialOf (hT k2) zip_no_hint ?_)
  refine wpAny_pure ?_
  show wpAny _ _ (rule "list.extend.makes-room" >>= fun _ => Builtin.List.listTouch (.ref s.heap.objs.size) >>= fun _ =>
    again (.builtin "list.extend.loop" ⟨[.ref s.heap.objs.size, .ref z, .none], []⟩)) _ _ _
  refine wpAny_bind (wpAny_rule ?_)
  refine wpAny_bind ?_
  show wpAny _ _ (updateSeq s.heap.objs.size (·.push .none) >>= fun _ => updateSeq s.heap.objs.size (·.pop)) _ _ _
  refine wpAny_bind (wpAny_updateSeq hS2 rfl ?_)
  have hS3 := Heap.get?_update_self (Obj.mapSeq (·.push Value.none)) hS2 rfl
  refine wpAny_updateSeq (hz := by seq_fits) hS3 rfl ?_
  have hS4 := Heap.get?_update_self (Obj.mapSeq (·.pop)) hS3 rfl
  have k4 := up _ (Obj.mapSeq (·.pop)) (up _ (Obj.mapSeq (·.push Value.none)) k2)
  exact wpAny_pure ⟨plainId_quiet F.plain_extend_loop _, h _ _ _ k4 hS4 fun s' hq => ⟨rfl, hq⟩⟩
end
end Z2
namespace Fx
open PySem PySem.Spec L2
open PyProof.Rows hiding St
section
variable {X : Cx} {W : WX}
/-- one new object is laid, at one of the places that change -/
theorem turnedAt {pins : List (Addr × Obj)} {σ : L2.St} {H : Hp} {s : Shared} {h' : Heap} {t' : Nat} {ch : List Addr} {T : Addr} {ob : HO} (I : Inv X pins σ H s) (k : ∀ b o, b ∉ ch → s.heap.get? b = some o → h'.get? b = some o) (hf : ∀ b ∈ ch, FpOk X pins H b) (hT : T ∈ ch)
    (new : ObjOk X.prog X.w (upd H T ob) h' T ob) : Inv X pins σ (upd H T ob) { s with heap := h', toks := t' } := by
  have hn : H T = none := (hf T hT).1
  have nit : ∀ b u, H b = some u → b ∉ ch := fun b u e z => by
    have q := (hf b z).1
    rw [q] at e; cases e
  refine I.step (g' := s.gens) (d' := s.drawn) (ch := ch) (fun b hb => ⟨(hf b hb).2.2.2.1, (hf b hb).2.1, (hf b hb).2.2.2.2.1, (hf b hb).2.2.2.2.2⟩) (fun b o _ _ hc e _ => k b o hc e) (fun b o _ _ hc e _ => ⟨o.slots, k b o hc e⟩)
    (fun b o hc e n => ?_) (fun b o hc e => ⟨o, k b o hc e⟩) (fun b xs e => ?_) (fun b o u e => ?_) (fun b ps e => ⟨#[], ?_⟩) (fun m hm => ?_) (fun b u e => ?_) I.bare
  · rw [upd_ne (fun z => hc (by rw [z]; exact hT))]; exact n
  · rw [upd_ne (ne_of_none e hn)]; exact e
  · rw [upd_ne (ne_of_none e hn)]; exact e
  · rw [upd_ne (ne_of_none e hn), e]; simp
  · obtain ⟨o, es, ep, ho, r⟩ := hm
    exact ⟨o, es, ep, k _ o (fun z => (hf _ z).2.1 rfl) ho, r⟩
  · by_cases hb : b = T
    · subst hb
      rw [upd_same] at e
      cases e
      exact new
    · rw [upd_ne hb] at e
      refine (I.hok b u e).stay (fun c v hc q => k c v ?_ q) (fun c q => by rw [upd_ne (ne_of_none q hn)]; exact q) fun c xs q => by rw [upd_ne (ne_of_none q hn)]; exact q
      rcases hc with z | z
      · rw [z]; exact nit b u e
      · exact nit c _ z
/-- new tuples of the pairs, laid one behind the other -/
def PutT : List (V × V) → List V → Hp → (List V → Hp → Prop) → Prop
  | [], acc, H, k => k acc H
  | p :: r, acc, H, k => ∀ T, H T = none → PutT r (acc ++ [.ref T]) (upd H T (.tup [p.1, p.2])) k
def Zst (h : Heap) (H : Hp) (z TI TO i1 i2 a b : Addr) (i : Nat) : Prop :=
  (IsZip h z TI TO .none ∨ ∃ (T : Addr) (f1 : Bool) (vs : List V), Z2.IsZipF h z TI TO (rawInt T) f1 ∧ H T = some (.tup vs)) ∧ (∃ x y, IsPair h TO x y) ∧ IsPair h TI (.ref i1) (.ref i2) ∧ h.IsListIter i1 a i ∧ h.IsListIter i2 b i
theorem sql_new {K : PySem.W.Frag} {H : Hp} {a T : Addr} {xs : List V} {o : HO} (h : SqL K H a xs) (hn : H T = none) : SqL K (upd H T o) a xs := by
  rcases h with (h | ⟨ob, h⟩) | h
  · exact .inl (.inl (by rw [upd_ne (ne_of_none h hn)]; exact h))
  · exact .inl (.inr ⟨ob, by rw [upd_ne (ne_of_none h hn)]; exact h⟩)
  · exact .inr h
theorem loop2 {pins : List (Addr × Obj)} {σ : L2.St} {A : Around} {R : Result → Shared → Prop} {S z TI TO i1 i2 a b : Addr} {xs ys : List V} {k : List V → Hp → Prop} {res : Value} (hh : A.handled = none) (D : ZipApart z TI TO i1 i2 a b) (hS : S ∉ [z, TI, TO, i1, i2]) (hz : (xs.zip ys).length ≤ sizeLine)
    (hR : ∀ s' acc' c' H' ts', Inv X pins σ H' s' → FpOk X pins H' S → s'.heap.get? S = some { cls := .type "list", dict := none, data := .seq acc' c', slots := #[] } → Vals ts' acc'.toList → ts'.length ≤ sizeLine → k ts' H' → R (.ok (.ret res)) s') :
    ∀ (n i : Nat) (s : Shared) (acc : Array Value) (c : Nat) (H : Hp) (ts : List V), (xs.zip ys).length - i = n → i ≤ (xs.zip ys).length → Inv X pins σ H s → Zst s.heap H z TI TO i1 i2 a b i → (∀ d ∈ [S, z, TI, TO, i1, i2], FpOk X pins H d) →
      s.heap.get? S = some { cls := .type "list", dict := none, data := .seq acc c, slots := #[] } → Vals ts acc.toList → acc.size = i → SqL X.K H a xs → SqL X.K H b ys → PutT ((xs.zip ys).drop i) ts H k →
      codeAny (model X.prog X.w) A (.builtin "list.extend.loop" ⟨[.ref S, .ref z, res], []⟩) R s := by
  intro n
  induction n with
  | zero =>
    intro i s acc c H ts hn hi I hst hf hSo hv hac ha hb hP
    refine codeAny_builtin F.entry_extend_loop ?_
    rw [Around.under_plainId F.plain_extend_loop _]
    show wpAny _ A.in1 (pyNext (.ref z) >>= _) _ _ s
    obtain ⟨hzs, ⟨x0, y0, hTO⟩, hTI, h1, h2⟩ := hst
    obtain ⟨its, rv, p, _⟩ := I.list ha
    obtain ⟨its2, rv2, p2, _⟩ := I.list hb
    have hzl : (xs.zip ys).length = min xs.length ys.length := List.length_zip
    have hend : its.toArray[i]? = none ∨ its2.toArray[i]? = none := by
      have l1 := rv.length
      have l2 := rv2.length
      rcases Nat.le_total xs.length ys.length with q | q
      · exact .inl (by simp; omega)
      · exact .inr (by simp; omega)
    have hd : (xs.zip ys).drop i = [] := List.drop_eq_nil_of_le (by omega)
    rw [hd] at hP
    have fin : ∀ h', (∀ c o, c ∉ [z, TI, TO, i1, i2] → s.heap.get? c = some o → h'.get? c = some o) → R (.ok (.ret res)) { s with heap := h' } := fun h' hk =>
      hR _ acc c H ts (I.turnedL (t' := s.toks) (ch := [z, TI, TO, i1, i2]) hk fun d hd => hf d (List.mem_cons_of_mem _ hd)) (hf S List.mem_cons_self) (hk S _ hS hSo) hv (by have := hv.length; simp at this; omega) hP
    rcases hzs with hz0 | ⟨T, f1, vs, hz0, hT⟩
    · exact wpAny_bind (wpAny_pyNext_zip_end hh D hz0 hTI hTO h1 h2 p.isList p2.isList hend fun h' hk => wpAny_pure (fin h' fun c o hc q =>
        hk c o (fun q' => hc (by simp [q'])) (fun q' => hc (by simp [q'])) (fun q' => hc (by simp [q'])) (fun q' => hc (by simp [q'])) q))
    · obtain ⟨_, tits, _, ob, hob, _⟩ := I.hok T _ hT
      exact wpAny_bind (Z2.pyEnd_again hh D hz0 hob hTI h1 h2 p.isList p2.isList hend fun h' hk => wpAny_pure (fin h' fun c o hc q =>
        hk c o (fun q' => hc (by simp [q'])) (fun q' => hc (by simp [q'])) (fun q' => hc (by simp [q'])) q))
  | succ n ih =>
    intro i s acc c H ts hn hi I hst hf hSo hv hac ha hb hP
    refine codeAny_builtin F.entry_extend_loop ?_
    rw [Around.under_plainId F.plain_extend_loop _]
    show wpAny _ A.in1 (pyNext (.ref z) >>= _) _ _ s
    have hlt : i < (xs.zip ys).length := by omega
    have hxy : (xs.zip ys)[i]? = some (xs.zip ys)[i] := List.getElem?_eq_getElem hlt
    rw [List.drop_eq_getElem_cons hlt] at hP
    generalize (xs.zip ys)[i] = q at hxy hP
    obtain ⟨x, y⟩ := q
    rw [List.getElem?_zip_eq_some] at hxy
    obtain ⟨hzs, ⟨x0, y0, hTO⟩, hTI, h1, h2⟩ := hst
    obtain ⟨its, rv, p, _⟩ := I.list ha
    obtain ⟨its2, rv2, p2, _⟩ := I.list hb
    obtain ⟨u, hu, ru⟩ := rv.get hxy.1
    obtain ⟨u2, hu2, ru2⟩ := rv2.get hxy.2
    have hN : H s.heap.objs.size = none := I.hok.fresh (Nat.le_refl _)
    have nx : ∀ E : Value → Shared → Prop, wpAny (model X.prog X.w) A.in1 (pyNext (.ref z)) (fun v s' => ∃ h', v = some (.ref s.heap.objs.size) ∧ s' = { s with heap := h' } ∧ Zst h' (upd H s.heap.objs.size (.tup [x, y])) z TI TO i1 i2 a b (i + 1) ∧ IsPair h' s.heap.objs.size u u2 ∧
        ∀ c o, c ∉ [z, TI, TO, i1, i2] → s.heap.get? c = some o → h'.get? c = some o) E s := by
      intro E
      rcases hzs with hz0 | ⟨T, f1, vs, hz0, hT⟩
      · refine wpAny_pyNext_zip_item D hz0 hTI hTO h1 h2 p.isList p2.isList (x := u) (y := u2) (by simpa using hu) (by simpa using hu2) fun h' z' TO' h1' h2' hT hsz hk => ?_
        exact ⟨h', rfl, rfl, ⟨.inr ⟨_, false, [x, y], z', upd_same⟩, ⟨_, _, TO'⟩, hk _ _ D.TIz D.TITO D.TIi1 D.TIi2 hTI, h1', h2'⟩, hT, fun c o hc q =>
          hk c o (fun q' => hc (by simp [q'])) (fun q' => hc (by simp [q'])) (fun q' => hc (by simp [q'])) (fun q' => hc (by simp [q'])) q⟩
      · obtain ⟨_, tits, _, ob, hob, _⟩ := I.hok T _ hT
        refine Z2.pyNext_again D hz0 hob hTI h1 h2 p.isList p2.isList (x := u) (y := u2) (by simpa using hu) (by simpa using hu2) fun h' z' h1' h2' hT2 hk => ?_
        exact ⟨h', rfl, rfl, ⟨.inr ⟨T, true, vs, z', by rw [upd_ne (ne_of_none hT hN)]; exact hT⟩, ⟨_, _, hk _ _ D.TOz D.TOi1 D.TOi2 hTO⟩, hk _ _ D.TIz D.TIi1 D.TIi2 hTI, h1', h2'⟩, hT2, fun c o hc q =>
          hk c o (fun q' => hc (by simp [q'])) (fun q' => hc (by simp [q'])) (fun q' => hc (by simp [q'])) q⟩
    refine wpAny_bind (wpAny_mono (nx _) (fun v s' hq => ?_) (fun _ _ h => h))
    obtain ⟨h', rfl, rfl, hst', hT, hk⟩ := hq
    have hS' := hk S _ hS hSo
    have hSl : S < s.heap.objs.size := Heap.lt_size hSo
    have new : ObjOk X.prog X.w (upd H s.heap.objs.size (.tup [x, y])) h' s.heap.objs.size (.tup [x, y]) := ⟨by show 2 ≤ sizeLine; decide, [u, u2], .cons ru (.cons ru2 .nil), ⟨_, hT, rfl, _, rfl⟩⟩
    have I1 : Inv X pins σ (upd H s.heap.objs.size (.tup [x, y])) { s with heap := h' } := I.turnedNew (t' := s.toks) (ch := [z, TI, TO, i1, i2]) hk (fun d hd => hf d (List.mem_cons_of_mem _ hd)) (Nat.le_refl _) new
    have old : ∀ d ∈ [S, z, TI, TO, i1, i2], d ≠ s.heap.objs.size := fun d hd => by
      have hzl : z < s.heap.objs.size := by rcases hzs with hz0 | ⟨T, f1, vs, hz0, hT⟩ <;> exact Heap.lt_size hz0
      have e' : d = S ∨ d = z ∨ d = TI ∨ d = TO ∨ d = i1 ∨ d = i2 := by simpa using hd
      refine Nat.ne_of_lt ?_
      rcases e' with q | q | q | q | q | q
      · rw [q]; exact hSl
      · rw [q]; exact hzl
      · rw [q]; exact Heap.lt_size hTI
      · rw [q]; exact Heap.lt_size hTO
      · rw [q]; obtain ⟨_, e1, _⟩ := h1; exact Heap.lt_size e1
      · rw [q]; obtain ⟨_, e2, _⟩ := h2; exact Heap.lt_size e2
    have hf1 : ∀ d ∈ [S, z, TI, TO, i1, i2], FpOk X pins (upd H s.heap.objs.size (.tup [x, y])) d := fun d hd => ⟨by rw [upd_ne (old d hd)]; exact (hf d hd).1, (hf d hd).2⟩
    show wpAny _ A.in1 (updateSeq S (·.push (.ref s.heap.objs.size)) >>= _) _ _ _
    refine wpAny_bind ?_
    refine wpAny_updateSeq hS' rfl (wpAny_pure ⟨plainId_quiet F.plain_extend_loop _, ?_⟩) (by rw [hac]; omega) (by show (acc.push _).size ≤ sizeLine + 1; rw [Array.size_push, hac]; omega)
    have k2 : ∀ d o, d ∉ [S] → h'.get? d = some o → (h'.update S (Obj.mapSeq (·.push (.ref s.heap.objs.size)))).get? d = some o := fun d o hd e => (Heap.get?_update_other _ _ (fun z' : S = d => hd (by simp [z']))).trans e
    have I2 : Inv X pins σ (upd H s.heap.objs.size (.tup [x, y])) { s with heap := h'.update S (Obj.mapSeq (·.push (.ref s.heap.objs.size))) } := Inv.turnedL (s := { s with heap := h' }) I1 (t' := s.toks) (ch := [S]) k2 (fun d hd => by rw [List.mem_singleton.mp hd]; exact hf1 S List.mem_cons_self)
    obtain ⟨hzs', ⟨x1, y1, hTO'⟩, hTI', h1', h2'⟩ := hst'
    have nS : ∀ {d}, d ∈ [z, TI, TO, i1, i2] → d ∉ [S] := fun hd z' => hS (by rw [← List.mem_singleton.mp z']; exact hd)
    refine ih (i + 1) _ (acc.push (.ref s.heap.objs.size)) _ (upd H s.heap.objs.size (.tup [x, y])) (ts ++ [.ref s.heap.objs.size]) (by omega) hlt I2 ⟨?_, ⟨x1, y1, k2 _ _ (nS (by simp)) hTO'⟩, k2 _ _ (nS (by simp)) hTI', h1'.at fun o e => k2 _ o (nS (by simp)) e, h2'.at fun o e => k2 _ o (nS (by simp)) e⟩ hf1 (Heap.get?_update_self _ hS' rfl) ?_ (by rw [Array.size_push, hac]) (sql_new ha hN) (sql_new hb hN) (hP _ hN)
    · rcases hzs' with hz0 | ⟨T, f1, vs, hz0, hT⟩
      · exact .inl (k2 _ _ (nS (by simp)) hz0)
      · exact .inr ⟨T, f1, vs, k2 _ _ (nS (by simp)) hz0, hT⟩
    · rw [Array.toList_push]; exact hv.append (.cons rfl .nil)
def tLstZip (K : PySem.W.Frag) (ta : TA) : TE := fun σ H Q => ta σ H fun vs H1 => ∃ (a b : Addr) (xs ys : List V), vs = [.ref a, .ref b] ∧ SqL K H1 a xs ∧ SqL K H1 b ys ∧ PutT (xs.zip ys) [] H1 fun ts H2 => ∀ q, H2 q = none → Q (.ref q) (upd H2 q (.lst ts))
theorem pe_listZip {e e2 : Expr} {ta : TA} {p p2 pos pos2 : Pos} (hc : X.calm = true) (hg : Gl X "list") (hm : X.mg "list" = none) (hg2 : Gl X "zip") (hm2 : X.mg "zip" = none) (ha : PA X [e, e2] ta)
    (hs : starEach [e, e2] X.env = (false, eval e X.env) :: starEach [e2] X.env := by rfl) (hpl : (backTo pos2 (starEach [e2] X.env)).any (·.1) = false := by rfl)
    (hs2 : starEach [.Call (.Name "zip" p2) [e, e2] [] pos2] X.env = (false, eval (.Call (.Name "zip" p2) [e, e2] [] pos2) X.env) :: starEach [] X.env := by rfl) : PE X (.Call (.Name "list" p) [.Call (.Name "zip" p2) [e, e2] [] pos2] [] pos) (tLstZip X.K ta) := by
  refine ⟨fun pins s σ H Q I h => ?_⟩
  refine Call_ (ld_blt I hg hm boot_list (PyProof.Rows.callWith_type1 (args_cons (Call_ (ld_blt I hg2 hm2 PyProof.Rows.boot_zip (PyProof.Rows.callWith_type1 (thn (ha.run pos2 pins s σ H _ I h) fun us s1 ⟨vs, H1, I1, r1, q1⟩ => ?_) hs hpl))) hs2) hs2 rfl))
  obtain ⟨a, b, xs, ys, ex, hqx, hqy, q⟩ := q1
  subst ex
  cases r1 with
  | cons r rr =>
    cases rr with
    | cons r' rr =>
      cases rr
      cases r
      cases r'
      obtain ⟨its, rv, p1, z1⟩ := I1.list hqx
      obtain ⟨its2, rv2, p2, z2⟩ := I1.list hqy
      have la : a < s1.heap.objs.size := p1.lt
      have lb : b < s1.heap.objs.size := p2.lt
      refine call_zip_2 p1.isList p2.isList fun h' hz hTI hTO h1 h2 hsz hk => args_nil ?_
      have I2 : Inv X pins σ H1 { s1 with heap := h' } := I1.kept (t' := s1.toks) hk
      have hn1 : ∀ d, s1.heap.objs.size ≤ d → FpOk X pins H1 d := fun d hd => I1.fpOk hd (I1.hok.fresh hd)
      have ap := PySem.W.ktu_apart s1.heap.objs.size a b la lb
      have hzl : (xs.zip ys).length ≤ sizeLine := by rw [List.length_zip]; omega
      refine Z2.call_list_zip (s := { s1 with heap := h' }) hz fun h'' c R hk2 hS hR => ?_
      have hSs : h'.objs.size = s1.heap.objs.size + 5 := hsz
      have I3 : Inv X pins σ H1 { s1 with heap := h'' } := I2.kept (s := { s1 with heap := h' }) (t' := s1.toks) hk2
      refine loop2 (A := X.A.in1) (σ := σ) (pins := pins) (I1.ok.hd hc) ap ?_ hzl (k := fun ts H2 => ∀ q, H2 q = none → Q (.ref q) (upd H2 q (.lst ts))) (fun s' acc' c' H' ts' I' hfS hS' hv hl hk' => hR s' ?_) _ 0 { s1 with heap := h'' } #[] c H1 [] rfl (Nat.zero_le _) I3 ⟨.inl (hk2 _ _ hz), ⟨_, _, hk2 _ _ hTO⟩, hk2 _ _ hTI, h1.at fun o e => hk2 _ o e, h2.at fun o e => hk2 _ o e⟩ (fun d hd => hn1 d ?_) hS .nil rfl hqx hqy q
      · show h'.objs.size ∉ _
        rw [hSs]; simp
      · refine ⟨.ref h'.objs.size, upd H' h'.objs.size (.lst ts'), ?_, rfl, hk' _ hfS.1⟩
        exact turnedAt (t' := s'.toks) (ch := [h'.objs.size]) I' (fun _ _ _ e => e) (fun d hd => by rw [List.mem_singleton.mp hd]; exact hfS) (List.mem_singleton.mpr rfl) ⟨hl, acc'.toList, c', hv, by rw [Array.toArray_toList]; exact hS'⟩
      · have e' : d = h'.objs.size ∨ d = s1.heap.objs.size + 4 ∨ d = s1.heap.objs.size + 2 ∨ d = s1.heap.objs.size + 3 ∨ d = s1.heap.objs.size ∨ d = s1.heap.objs.size + 1 := by simpa using hd
        rw [hSs] at e'
        rcases e' with z | z | z | z | z | z
        · rw [z]; exact Nat.le_add_right _ _
        · rw [z]; exact Nat.le_add_right _ _
        · rw [z]; exact Nat.le_add_right _ _
        · rw [z]; exact Nat.le_add_right _ _
        · rw [z]; exact Nat.le_refl _
        · rw [z]; exact Nat.le_add_right _ _
/-! the reading -/
def putT : List (V × V) → List V → Sto → R (List V)
  | [], acc, S => .ok acc S
  | p :: r, acc, S => putT r (acc ++ [.ref S.length]) (S ++ [.tup [p.1, p.2]])
def zipK (ts : List V) (S : Sto) : R V := if ts.length ≤ lim then alloc (.lst ts) S else .bad
def zipM (vs : List V) (S : Sto) : R V := match vs with
  | [v, w] => match rdL v S, rdL w S with
    | some xs, some ys => (putT (xs.zip ys) [] S).bind zipK
    | _, _ => .bad
  | _ => .bad
def eLZ (m : St → Sto → R (List V)) : St → Sto → R V := fun σ S => (m σ S).bind fun vs S1 => zipM vs S1
theorem vsr_cons {η : List Addr} {x : V} {xs us : List V} (h : VsR η (x :: xs) us) : ∃ u us', us = u :: us' ∧ VR η x u ∧ VsR η xs us' := by
  cases h with
  | cons r t => exact ⟨_, _, rfl, r, t⟩
theorem vsr_snoc {η : List Addr} {x u : V} (hx : VR η x u) : ∀ {xs us : List V}, VsR η xs us → VsR η (xs ++ [x]) (us ++ [u])
  | [], us, h => by cases h; exact .cons hx .nil
  | y :: ys, us, h => by
    obtain ⟨v, vs, rfl, h1, h2⟩ := vsr_cons h
    exact .cons h1 (vsr_snoc hx h2)
theorem put_ok {σ : L2.St} {Q : VK} : ∀ {xs ys us vs acc acc' : List V} {η : List Addr} {S : Sto} {H : Hp}, VsR η xs us → VsR η ys vs → Rel X.K η S H → VsR η acc acc' → Po X.K X.mg W σ VR η H ((putT (xs.zip ys) acc S).bind zipK) Q →
    PutT (us.zip vs) acc' H fun ts H2 => ∀ q, H2 q = none → Q (.ref q) (upd H2 q (.lst ts)) := by
  intro xs
  induction xs with
  | nil =>
    intro ys us vs acc acc' η S H r1 r2 hR ra p
    cases r1
    have p : Po X.K X.mg W σ VR η H (zipK acc S) Q := p
    unfold zipK at p
    by_cases hl : acc.length ≤ lim
    · rw [if_pos hl] at p
      exact Po.lst hR ra (by rw [← lim_eq]; exact hl) p
    · rw [if_neg hl] at p
      exact p.elim
  | cons x xs ih =>
    intro ys us vs acc acc' η S H r1 r2 hR ra p
    obtain ⟨u, us', rfl, q1, t1⟩ := vsr_cons r1
    cases ys with
    | nil =>
      cases r2
      have p : Po X.K X.mg W σ VR η H (zipK acc S) Q := p
      unfold zipK at p
      by_cases hl : acc.length ≤ lim
      · rw [if_pos hl] at p
        exact Po.lst hR ra (by rw [← lim_eq]; exact hl) p
      · rw [if_neg hl] at p
        exact p.elim
    | cons y ys =>
      obtain ⟨v, vs', rfl, q2, t2⟩ := vsr_cons r2
      intro T hT
      have e := Ext.new hR hT (.tup [u, v])
      have pf : η <+: η ++ [T] := List.prefix_append _ _
      refine ih (η := η ++ [T]) (S := S ++ [.tup [x, y]]) (VsR.mono pf t1) (VsR.mono pf t2) (hR.new hT (o := .tup [x, y]) ⟨by show 2 ≤ sizeLine; decide, [u, v], upd_same, .cons (q1.mono pf) (.cons (q2.mono pf) .nil)⟩ rfl) (vsr_snoc (VR.new hR) (VsR.mono pf ra)) ?_
      exact Po.mono e p
theorem fe_listZip {e e2 : Expr} {m : St → Sto → R (List V)} {p p2 pos pos2 : Pos} (hc : X.calm = true) (hg : Gl X "list") (hm : X.mg "list" = none) (hg2 : Gl X "zip") (hm2 : X.mg "zip" = none) (ha : FA X W [e, e2] m)
    (hs : starEach [e, e2] X.env = (false, eval e X.env) :: starEach [e2] X.env := by rfl) (hpl : (backTo pos2 (starEach [e2] X.env)).any (·.1) = false := by rfl)
    (hs2 : starEach [.Call (.Name "zip" p2) [e, e2] [] pos2] X.env = (false, eval (.Call (.Name "zip" p2) [e, e2] [] pos2) X.env) :: starEach [] X.env := by rfl) : FE X W (.Call (.Name "list" p) [.Call (.Name "zip" p2) [e, e2] [] pos2] [] pos) (eLZ m) :=
  ⟨PE.wk (pe_listZip hc hg hm hg2 hm2 ha.run hs hpl hs2) fun σ H Q h => by
    obtain ⟨η, S, σ0, hR, hS, p⟩ := h
    refine ⟨η, S, σ0, hR, hS, (Po.bind (rel := VsR) p).imp fun us H1 ⟨η1, S1, v, e1, hR1, r1, p1⟩ => ?_⟩
    unfold zipM at p1
    split at p1
    · rename_i v w
      obtain ⟨u, z, rfl, q1, q2⟩ := VsR.two r1
      split at p1
      · rename_i xs ys h1 h2
        obtain ⟨a, us, rfl, hq, r2, z1⟩ := rdL_ok h1 hR1 q1
        obtain ⟨b, vs, rfl, hq2, r3, z2⟩ := rdL_ok h2 hR1 q2
        exact ⟨a, b, us, vs, rfl, hq, hq2, put_ok r2 r3 hR1 .nil p1⟩
      · exact p1.elim
    · exact p1.elim⟩
/-! the signs of a text, one by one -/
def strI (x : Str) : List Itm := (List.range x.cps.size).map fun (i : Nat) => .one (.str ⟨#[x.cps.getD i 0]⟩)
def iS (m : St → Sto → R V) : St → Sto → R AI := fun σ S => (m σ S).bind fun v S1 => match v with
  | .str x => if x.cps.size ≤ lim then .ok (strI x, fun _ => true) S1 else .bad
  | _ => .bad
theorem JR.str {K : PySem.W.Frag} {η : List Addr} {x : Str} (hn : x.cps.size ≤ lim) : JR K η (strI x, fun _ => true) (Its x) := by
  have hl : (strI x).length = x.cps.size := by unfold strI; rw [List.length_map, List.length_range]
  refine ⟨by show (strI x).length ≤ sizeLine; rw [hl]; exact hn, fun η' S' H' i it he hR hc hi => ?_, fun η' S' H' he hR hc => ?_⟩
  · have hi : (strI x)[i]? = some it := hi
    unfold strI at hi
    rw [List.getElem?_map] at hi
    by_cases h : i < x.cps.size
    · rw [List.getElem?_range h] at hi
      have hi := (Option.some.inj hi).symm
      subst hi
      refine ⟨h, fun v H2 hy => ?_⟩
      obtain ⟨rfl, c, hc, rfl⟩ := hy
      refine ⟨rfl, ?_⟩
      have e : x.cps.getD i 0 = c := by
        rw [Array.getD_eq_getD_getElem?, hc]; rfl
      rw [e]
      rfl
    · rw [List.getElem?_eq_none (by simpa using h)] at hi
      cases hi
  · show x.cps.size ≤ (strI x).length
    rw [hl]; exact Nat.le_refl _
theorem fi_str {tg e : Expr} {m : St → Sto → R V} (h : FE X W e m) : FI X W tg e (iS m) := ⟨_, pi_str h.run, fun σ H Q h => by
  obtain ⟨η, S, σ0, hR, hS, p⟩ := h
  refine ⟨η, S, σ0, hR, hS, (Po.bind (rel := VR) p).imp fun u H1 ⟨η1, S1, v, e1, hR1, r1, p1⟩ => ?_⟩
  cases v with
  | str x =>
    cases (show u = V.str x from r1)
    by_cases hx : x.cps.size ≤ lim
    · have p1 : Po X.K X.mg W σ (JR X.K) η1 H1 (.ok (strI x, fun _ => true) S1) Q := by
        have p2 := p1
        simp only [hx, if_true] at p2
        exact p2
      exact ⟨x, rfl, p1.now hR1 (JR.str hx)⟩
    · have p2 := p1
      simp only [hx, if_false] at p2
      exact p2.elim
  | _ => exact p1.elim⟩
end
end Fx
/-! Fx: f-strings of three parts. -/
namespace Fx
open PySem PySem.Spec L2
open PyProof.Rows hiding St
section
variable {X : Cx} {W : WX}
def fmtM (x : V) (S : Sto) : R V := match x with
  | .int i => if i.natAbs.log2 < 1920 then .ok (.str (toString i)) S else .bad
  | .str y => if y.length ≤ lim then .ok (.str y) S else .bad
  | _ => .bad
def eFm (m : St → Sto → R V) : St → Sto → R V := fun σ S => (m σ S).bind fun x S1 => fmtM x S1
theorem fe_fmt {e : Expr} {m : St → Sto → R V} {pos : Pos} (h : FE X W e m) : FE X W (.FormattedValue e (-1) none pos) (eFm m) :=
  ⟨PE.wk (pe_fmt h.run) fun σ H Q h => by
    obtain ⟨η, S, σ0, hR, hS, p⟩ := h
    refine ⟨η, S, σ0, hR, hS, (Po.bind (rel := VR) p).imp fun u H1 ⟨η1, S1, v, e1, hR1, r1, p1⟩ => ?_⟩
    unfold fmtM at p1
    split at p1
    · rename_i i
      cases (show u = V.int i from r1)
      split at p1
      · rename_i hi
        exact .inr ⟨i, rfl, hi, p1.now hR1 rfl⟩
      · exact p1.elim
    · rename_i y
      cases (show u = V.str y from r1)
      split at p1
      · rename_i hy
        exact .inl ⟨y, rfl, by rw [← lim_eq]; exact hy, p1.now hR1 rfl⟩
      · exact p1.elim
    · exact p1.elim⟩
def jnM (acc : Str) (x : V) (S : Sto) : R Str := match x with
  | .str y => if (acc ++ y).length ≤ lim then .ok (acc ++ y) S else .bad
  | _ => .bad
def eJ3 (m1 m2 m3 : St → Sto → R V) : St → Sto → R V := fun σ S =>
  (m1 σ S).bind fun x S1 => (jnM Str.empty x S1).bind fun a S2 => (m2 σ S2).bind fun y S3 => (jnM a y S3).bind fun b S4 => (m3 σ S4).bind fun z S5 => (jnM b z S5).bind fun c S6 => .ok (.str c) S6
theorem jn_ok {σ : L2.St} {η : List Addr} {H : Hp} {acc : Str} {x u : V} {S : Sto} {f : Str → Sto → R V} {Q : VK} (r : VR η x u) (p : Po X.K X.mg W σ VR η H ((jnM acc x S).bind f) Q) :
    ∃ y : Str, u = .str y ∧ (acc ++ y).length ≤ sizeLine ∧ Po X.K X.mg W σ VR η H (f (acc ++ y) S) Q := by
  unfold jnM at p
  split at p
  · rename_i y
    cases (show u = V.str y from r)
    split at p
    · rename_i hy
      exact ⟨y, rfl, by rw [← lim_eq]; exact hy, p⟩
    · exact p.elim
  · exact p.elim
theorem fe_j3 {e1 e2 e3 : Expr} {m1 m2 m3 : St → Sto → R V} {pos : Pos} (h1 : FE X W e1 m1) (h2 : FE X W e2 m2) (h3 : FE X W e3 m3) : FE X W (.JoinedStr [e1, e2, e3] pos) (eJ3 m1 m2 m3) :=
  ⟨PE.wk (pe_joined (.cons h1.run (.cons h2.run (.cons h3.run .nil)))) fun σ H Q h => by
    obtain ⟨η, S, σ0, hR, hS, p⟩ := h
    refine ⟨η, S, σ0, hR, hS, (Po.bind (rel := VR) p).imp fun u H1 ⟨η1, S1, v, e1, hR1, r1, p1⟩ => ?_⟩
    obtain ⟨y, rfl, hy, p1⟩ := jn_ok r1 p1
    refine ⟨y, rfl, hy, η1, S1, σ0, hR1, hS.mono e1.1, (Po.bind (rel := VR) p1).imp fun u H2 ⟨η2, S2, v, e2, hR2, r2, p2⟩ => ?_⟩
    obtain ⟨y2, rfl, hy2, p2⟩ := jn_ok r2 p2
    refine ⟨y2, rfl, hy2, η2, S2, σ0, hR2, (hS.mono e1.1).mono e2.1, (Po.bind (rel := VR) p2).imp fun u H3 ⟨η3, S3, v, e3, hR3, r3, p3⟩ => ?_⟩
    obtain ⟨y3, rfl, hy3, p3⟩ := jn_ok r3 p3
    exact ⟨y3, rfl, hy3, p3.now hR3 rfl⟩⟩
end
/-! a text times a number -/
section
variable {X : Cx}
def rRepS : R2 := fun x y H Q => ∃ s k, x = .str s ∧ y = .int k ∧ (s.length ≤ 16 ∧ 0 ≤ k ∧ k ≤ 1000) ∧ Q (.str (Txt.mul s k)) H
theorem op_repS : OpR X (binaryOp .Mult) rRepS := by
  intro pins s σ H x y v u Q I rx ry h
  obtain ⟨i, j, rfl, rfl, hz, q⟩ := h
  obtain ⟨t, rfl⟩ := rx
  obtain ⟨t', rfl⟩ := ry
  exact PySem.W.KXi.mul rfl hz.1 (by omega) (by omega) (fun t'' tk _ _ => ⟨.str (Txt.mul i j), H, I.tok _, ⟨_, rfl⟩, q⟩)
def mulSM : V → V → Sto → R V := fun x y S => match x, y with
  | .str s, .int k => if s.length ≤ 16 ∧ 0 ≤ k ∧ k ≤ 1000 then .ok (.str (Txt.mul s k)) S else .bad
  | _, _ => .bad
theorem mulSM_ok : OpM X rRepS mulSM := by
  intro W σ η S H x y u v Q hR hx hy p
  unfold mulSM at p
  split at p
  · split at p
    · rename_i hl
      exact ⟨_, _, hx, hy, hl, p.now hR rfl⟩
    · exact p.elim
  · exact p.elim
end
end Fx
/-! Fx: a list comprehension whose step may let an exception out (a def called for each item), stored in a name. -/
namespace Fx
open PySem PySem.Spec L2
open PyProof.Rows hiding St
/-! ### the block's exception in the air of the def -/
theorem note_same {u : Value} {e e' : Env} (h : e.frame = e'.frame) : noteFrame u e = noteFrame u e' := by
  unfold noteFrame PySem.frameOf
  rw [h]
theorem frames_but {h1 h2 B B' : Heap} {C : Addr} (hh : ∀ b, b ≠ C → h2.get? b = h1.get? b) (hB : ∀ b, B.get? b = none → B'.get? b = none) : ∀ {l : List Env}, h1.FunFrames B l → C ∉ frs l → h2.FunFrames B' l
  | [], _, _ => trivial
  | env :: l, x, hC => by
    obtain ⟨hk, ⟨L, o, hf, hn, ho, hd⟩, hr⟩ := x
    have hL : L ≠ C := fun e => hC (List.mem_filterMap.mpr ⟨env, List.mem_cons_self, by rw [hf, e]⟩)
    exact ⟨hk, ⟨L, o, hf, hB L hn, (hh L hL).trans ho, hd⟩, frames_but hh hB hr fun hm => by
      obtain ⟨e, he, q⟩ := List.mem_filterMap.mp hm
      exact hC (List.mem_filterMap.mpr ⟨e, List.mem_cons_of_mem _ he, q⟩)⟩
section
variable {X : Cx} {W : WX} {pins pins' : List (Addr × Obj)} {σ σ' : St} {H H3 : Hp} {s s3 s' : Shared} {scope : Scope} {ce : Env} {fp : List Addr} {E : XK} {α : Type}
theorem blk_air (hs : X.stack = X.env :: X.outer) (hf : X.env.frame = some X.env.locals) (tk : Takes X W) (I3 : Inv X pins σ H3 s3) (cL : ce.locals = s3.heap.objs.size) (cF : ce.frame = X.env.frame)
    (hfp : ∀ b ∈ fp, (b ∈ X.ex ∨ X.s_0.heap.objs.size ≤ b) ∧ b ≠ X.env.locals ∧ (∀ x c, X.env.cells.lookup x = some c → c ≠ b) ∧ ∀ p ∈ X.pn ++ pins, p.1 ≠ b)
    (J : Inv (X.blk s3 H3 scope ce fp) pins' σ' H s) (hW : ∀ cls d H', E cls d H' → W cls d σ H') {u : Value} (c : L2.CX X.prog X.w X.stack H s E u s') {Q : α → Shared → Prop} {E1 : Value → Shared → Prop} :
    wpAny (model X.prog X.w) X.A (noteFrame u ce) (fun _ s1 => ∃ m, s1.heap.Ns ce.locals m ∧ ∀ h2, Heap.SameBut ce.locals s1.heap h2 → wpAny (model X.prog X.w) X.A (passOn "comprehension.variables-let-go" u ce : Sem α) Q X.xe { s1 with heap := h2 }) E1 s' := by
  obtain ⟨a, B, H', cls, d, rfl, fl, hok, ub, na, os, ag, hE⟩ := c
  have hfrm : X.A.frames = some (X.env :: X.outer) := by rw [I3.ok.frames, hs]
  have fl1 : HandSPX.FlyingZ B (X.env :: X.outer) a (Zc cls d) s'.heap := by rw [← hs]; exact fl
  rw [note_same cF]
  refine HandSPX.looks_onZ Zc.steady hfrm hf fl1 fun h1 hh1 up1 => ?_
  obtain ⟨m, ⟨o, es, ep, ho, hd, hk⟩, _⟩ := J.loc
  have ho : s.heap.get? ce.locals = some o := ho
  have hHC : H ce.locals = none := J.free
  have old : ∀ {b : Addr} {ob : Obj}, s3.heap.get? b = some ob → b ≠ ce.locals := fun e => by rw [cL]; exact Nat.ne_of_lt (Heap.lt_size e)
  have nCf : ce.locals ∉ frs X.stack := fun hm => by
    obtain ⟨_, ob, e, _⟩ := I3.stack.mem hm
    exact old e rfl
  have eB : B.get? ce.locals = some o := ub.keep _ o ho hHC nCf
  have e1 : h1.get? ce.locals = some o := hh1.1 _ o eB
  have hHC' : H' ce.locals = none := ub.free _ o ho hHC
  refine ⟨m, ⟨o, es, ep, e1, hd, hk⟩, fun h2 sb => ?_⟩
  have sb2 : ∀ b, b ≠ ce.locals → h2.get? b = h1.get? b := fun b hb => sb.2 b hb
  obtain ⟨G', b1, b2⟩ := L2.restrict B fun b => b != ce.locals
  have gB : ∀ b, b ≠ ce.locals → G'.get? b = B.get? b := fun b hb => b1 b (by simpa using hb)
  have gC : G'.get? ce.locals = none := b2 _ (by simp)
  have gS : ∀ b ob, G'.get? b = some ob → b ≠ ce.locals ∧ B.get? b = some ob := fun b ob e => by
    have hb : b ≠ ce.locals := fun z => by rw [z, gC] at e; cases e
    exact ⟨hb, by rw [← gB b hb]; exact e⟩
  have gN : ∀ b, B.get? b = none → G'.get? b = none := fun b e => by
    cases q : G'.get? b with
    | none => rfl
    | some ob => rw [(gS b ob q).2] at e; cases e
  obtain ⟨st1, fresh1, ff1, oe, vs, T, oT, ts, he, hz, hda, hv1, hnT, hTe, hT, hdT, ht3⟩ := id hh1
  have noF : ∀ {b : Addr} {ob : Obj} {ws : Array Value}, h1.get? b = some ob → ob.data = .fields ws → b ≠ ce.locals := fun {b ob ws} e q z => by
    rw [z, e1] at e; cases e
    rw [hd] at q; cases q
  have naC := noF he hda
  have nTC := noF hT hdT
  have held2 : HandSPX.HeldZ G' (X.env :: X.outer) a (Zc cls d) X.env.locals h2 :=
    ⟨fun b ob e => (sb2 b (gS b ob e).1).trans (st1 b ob (gS b ob e).2), gN _ fresh1, frames_but sb2 gN ff1 (by rw [← hs]; exact nCf),
      oe, vs, T, oT, ts, (sb2 a naC).trans he, hz, hda, hv1, gN _ hnT, hTe, (sb2 T nTC).trans hT, hdT, ht3⟩
  unfold PySem.passOn
  refine wpAny_bind (wpAny_field ((sb2 a naC).trans he) hda hv1 ?_)
  rw [if_neg (show ¬ ((Value.ref T == Value.none) = true) from by simp)]
  have fin : wpAny (model X.prog X.w) X.A (setFlight (.ref a) ce.frame) (fun _ s4 => wpAny (model X.prog X.w) X.A (throw (.ref a) : Sem α) Q X.xe s4) X.xe { s' with heap := h2 } := by
    rw [cF, hf]
    refine HandSPX.setFlight_onZ held2 fun h3 hh3 up3 => wpAny_throw (tk _ _ ?_)
    obtain ⟨G, g1, g2⟩ := L2.restrict h3 fun b => (G'.get? b).isSome || decide (b ∈ frs X.stack)
    have st3 : G'.StaysIn h3 := hh3.1
    have gG : ∀ b ob, G'.get? b = some ob → G.get? b = some ob := fun b ob e => by rw [g1 b (by simp [e])]; exact st3 b ob e
    have gF : ∀ b, b ∈ frs X.stack → G.get? b = h3.get? b := fun b hb => g1 b (by simp [hb])
    have og : ∀ b ob, G.get? b = some ob → h3.get? b = some ob ∧ ((G'.get? b).isSome = true ∨ b ∈ frs X.stack) := fun b ob e => by
      cases q : ((G'.get? b).isSome || decide (b ∈ frs X.stack)) with
      | false => rw [g2 b q] at e; cases e
      | true => rw [g1 b q] at e; exact ⟨e, by simpa [Bool.or_eq_true] using q⟩
    -- from the block's start to the ground
    have ju := J.base
    have slots : ∀ b ob, s3.heap.get? b = some ob → b ∈ frs X.stack → b ∉ fp → ∃ sl, G.get? b = some { ob with slots := sl } := fun b ob e hb hx => by
      obtain ⟨_, o2, e2, hnf⟩ := I3.stack.mem hb
      rw [e] at e2; cases e2
      obtain ⟨sl1, q1⟩ := ju.slot b ob e (I3.stkFree b hb) hb hx
      obtain ⟨sl2, q2⟩ := ub.slot b _ q1 hb
      obtain ⟨sl3, q3⟩ := up1 b _ q2 hnf
      have q4 := (sb2 b (old e)).trans q3
      obtain ⟨sl4, q5⟩ := up3 b _ q4 hnf
      exact ⟨sl4, by rw [gF b hb]; exact q5⟩
    refine ⟨a, G', { s3 with heap := G, gens := s'.gens, drawn := s'.drawn, toks := s'.toks }, pins, σ, H', cls, d, rfl, ?_, fun b ob e hb => ?_, Heap.UpToSlots.of_keeps fun b ob e => (og b ob e).1, .inr (.inr (by rw [hs]; exact hh3)), na, os.trans J.os, ag, hW _ _ _ hE⟩
    · refine I3.call (ch := fp) ⟨fun b ob e n hb hx => ?_, fun b ob e n hb hx => slots b ob e hb hx, fun b ob e n hx => ?_, fun b ob e hx => ?_, fun b xs e => ub.tups b xs (ju.tups b xs e), fun b o xs e => ub.frzs b o xs (ju.frzs b o xs e), fun b ps e => ?_⟩ ?_ ag hfp
      · have q1 := ju.keep b ob e n hb hx
        have q2 := ub.keep b ob q1 (ju.free b ob e n hx) hb
        exact gG b ob (by rw [gB b (old e)]; exact q2)
      · obtain ⟨o2, q1⟩ := ju.there b ob e hx
        exact ub.free b o2 q1 (ju.free b ob e n hx)
      · by_cases hb : b ∈ frs X.stack
        · obtain ⟨sl, q⟩ := slots b ob e hb hx
          exact ⟨_, q⟩
        · obtain ⟨o2, q1⟩ := ju.there b ob e hx
          obtain ⟨o3, q2⟩ := ub.there b o2 q1 hb
          exact ⟨o3, gG b o3 (by rw [gB b (old e)]; exact q2)⟩
      · obtain ⟨m1, q1⟩ := ju.tbls b ps e
        obtain ⟨m2, q2⟩ := ub.tbls b _ q1
        exact ⟨m1 ++ m2, by rw [q2, Array.append_assoc]⟩
      · intro b ob q
        refine (hok b ob q).stay (fun x w hx r => ?_) (fun _ r => r) fun _ _ r => r
        have hxC : x ≠ ce.locals := fun z => by
          rcases hx with hx | hx
          · rw [← hx, z, hHC'] at q; cases q
          · rw [z, hHC'] at hx; cases hx
        exact gG x w (by rw [gB x hxC]; exact r)
    · obtain ⟨q, h⟩ := og b ob e
      rcases h with h | h
      · obtain ⟨o2, q2⟩ := Option.isSome_iff_exists.mp h
        have z := st3 b o2 q2
        rw [q] at z; cases z
        exact q2
      · exact absurd h hb
  first
    | exact wpAny_bind (wpAny_pure (wpAny_bind fin))
    | exact wpAny_bind fin
end
/-! ### name = [elt for .. in ..], elt may raise -/
theorem relab_none {scope : Scope} {env : Env} (h : ∀ x ∈ scope.names, x.2 ≠ .free) : PySem.relabel scope env = scope := by
  have : (scope.names.map fun (n, k) => if (k == NameKind.free && env.scope.kind == .function && env.kindOf n == some .cell) then (n, NameKind.cell) else (n, k)) = scope.names := by
    refine (List.map_congr_left fun x hx => ?_).trans (List.map_id _)
    obtain ⟨n, k⟩ := x
    have e : (k == NameKind.free) = false := by simpa using h _ hx
    simp [e]
  unfold PySem.relabel
  rw [this]
theorem clos_none {cells : List (Str × Addr)} : ∀ {names : List (Str × NameKind)} {acc : List (Str × Addr)}, (∀ x ∈ names, x.2 ≠ .free) → cloFrom cells names acc = acc
  | [], _, _ => rfl
  | (n, k) :: r, acc, h => by
    have hk : k ≠ .free := h (n, k) List.mem_cons_self
    have ih := clos_none (cells := cells) (names := r) (acc := acc) fun x hx => h x (List.mem_cons_of_mem _ hx)
    cases k with
    | free => exact absurd rfl hk
    | _ => exact ih
section
variable {X : Cx} {W : WX} {i : Nat} {y : Str} {py pos spos : Pos} {elt tg iter : Expr} {ifs : List Expr} {scope : Scope} {own : List (Str × Nat)} {wi : TI} {g : TG} {tt : TT} {te : WX → TE}
theorem ps_setLcR (hs : X.stack = X.env :: X.outer) (hf : X.env.frame = some X.env.locals) (tk : Takes X W) (hc : X.calm = true) (hN : X.N.Nodup) (hy : X.N[i]? = some y) (hyl : X.env.scope.names.lookup y = some .local)
    (hsw : swapsWith (.ListComp elt [⟨tg, iter, ifs, 0⟩] scope pos) (some (.Name y py)) spos.line X.env = pure true) (hi : PI X tg iter wi) (ok : BlkOk X.N X.env.scope scope own) (nf : ∀ x ∈ scope.names, x.2 ≠ .free)
    (hg : ∀ (z : Shared) (K : Hp) (C : Addr) (cl : List (Str × Addr)) (fp : List Addr), PG (X.blk z K scope (compEnvC scope cl C X.env) fp) tg g)
    (ht : ∀ (z : Shared) (K : Hp) (C : Addr) (cl : List (Str × Addr)) (fp : List Addr), PTs (X.blk z K scope (compEnvC scope cl C X.env) fp) ifs tt)
    (he : ∀ (W' : WX) (pn : List (Addr × Obj)) (xe : Value → Shared → Prop) (z : Shared) (K : Hp) (C : Addr) (cl : List (Str × Addr)) (fp : List Addr), (∀ σ, PassesAt (L2.CX X.prog X.w) ((X.blk z K scope (compEnvC scope cl C X.env) fp).tr pn xe) σ (WE W' σ)) →
      PE ((X.blk z K scope (compEnvC scope cl C X.env) fp).tr pn xe) elt (te W'))
    (hsf : ∀ x, foldedSetIterable iter X.env x = pure x) :
    PS X (.Assign [.Name y py] (.ListComp elt [⟨tg, iter, ifs, 0⟩] scope pos) spos) (fun D σ H => tAsg (tLc wi g tt (te fun c d _ K => W c d σ K) (own.map (·.2))) (gName i) D σ H) := by
  refine ⟨fun pins s σ H D I h => ?_⟩
  rw [exec_Assign_Name_used _ _ _ _ hsw]
  refine wpAny_bind (wpAny_standAt (wpAny_bind ?_))
  show wpAny _ X.A (do
    let _ ← comprehension (.ListComp elt [⟨tg, iter, ifs, 0⟩] scope pos) scope X.env (firstIterPos [⟨tg, iter, ifs, 0⟩] pos) (newList []) false (eval iter X.env)
      (some (assign (.Name y py) X.env))) _ _ s
  have h : tLc wi g tt (te fun c d _ K => W c d σ K) (own.map (·.2)) σ H (fun x K => gName i x σ K D.nx) := h
  refine wpAny_bind (thn (wpAny_comprehension_use (Q := fun _ z => SP X pins D .next z) rfl hsf nf ok.kind (fun n hn e => by rw [ok.uniq n hn, e]) (thn (hi.run pins s σ H _ I h) fun xv s1 hx => thn hx fun itv s2 h2 => ?_))
    fun _ z hq => wpAny_pure (wpAny_pure hq))
  obtain ⟨it, fp, tn, J, H2, e, I2, T, st2, f2, q⟩ := h2
  subst e
  refine wpAny_newObj_type (newEnv_comp ?_) (by show 0 ≤ sizeLine; decide)
  generalize hL : s2.heap.objs.size = L
  have nL : H2 L = none := I2.hok.fresh (Nat.le_of_eq hL)
  obtain ⟨WW, ⟨m0, w0⟩, turn⟩ := q L nL
  -- the list that grows
  obtain ⟨s3, hs3⟩ : ∃ z : Shared, z = { s2 with heap := s2.heap.push { cls := .type "list", data := .seq ([] : List Value).toArray } } := ⟨_, rfl⟩
  have I3 : Inv X pins σ (upd H2 L (.lst [])) s3 := by
    rw [hs3]
    refine I2.laid (t' := s2.toks) (fun b o e => Heap.get?_push_of_some _ e) (Nat.le_of_eq hL) ⟨Nat.zero_le _, [], 0, .nil, ?_⟩
    rw [← hL]; exact Heap.get?_push_size _ rfl
  have heap3 : s3.heap = s2.heap.push { cls := .type "list", data := .seq ([] : List Value).toArray } := by rw [hs3]
  have small : ∀ b ∈ fp, b < s2.heap.objs.size := fun b hb => by
    obtain ⟨o, e, _⟩ := T.obj _ _ st2 b hb
    exact Heap.lt_size e
  have f3 : ∀ b ∈ fp, FpOk X pins (upd H2 L (.lst [])) b ∧ b < s3.heap.objs.size := fun b hb => by
    have hlt := small b hb
    refine ⟨⟨?_, (f2 b hb).2⟩, by rw [heap3, Heap.size_push]; exact Nat.lt_succ_of_lt hlt⟩
    rw [upd_ne (by rw [← hL]; exact Nat.ne_of_lt hlt)]
    exact (f2 b hb).1
  have st3 : tn 0 s3.heap := T.keep _ _ _ st2 fun b _ o e => by rw [heap3]; exact Heap.get?_push_of_some _ e
  have I4 := block_start I3 ok hN f3
  rw [← hs3]
  obtain ⟨ce, hce⟩ : ∃ ce : Env, ce = compEnvC scope (cellsFrom (s3.heap.objs.size + 1) scope.names (cloFrom X.env.cells scope.names [])) s3.heap.objs.size X.env := ⟨_, rfl⟩
  have cL : ce.locals = s3.heap.objs.size := by rw [hce]; rfl
  have cF : ce.frame = X.env.frame := by rw [hce]; rfl
  have pg := hg s3 (upd H2 L (.lst [])) s3.heap.objs.size (cellsFrom (s3.heap.objs.size + 1) scope.names (cloFrom X.env.cells scope.names [])) fp
  have pt := ht s3 (upd H2 L (.lst [])) s3.heap.objs.size (cellsFrom (s3.heap.objs.size + 1) scope.names (cloFrom X.env.cells scope.names [])) fp
  have pe := fun W' pn xe => he W' pn xe s3 (upd H2 L (.lst [])) s3.heap.objs.size (cellsFrom (s3.heap.objs.size + 1) scope.names (cloFrom X.env.cells scope.names [])) fp
  obtain ⟨R, hR⟩ : ∃ R : Result → Shared → Prop, R = fun r z => match r with
      | .ok _ => wpAny (model X.prog X.w) X.A (assign (.Name y py) X.env (.ref L)) (fun _ z2 => ∃ m, z2.heap.Ns ce.locals m ∧ ∀ h', Heap.SameBut ce.locals z2.heap h' → SP X pins D .next { z2 with heap := h' }) X.xe z
      | .error u => ∃ m, z.heap.Ns ce.locals m ∧ ∀ h', Heap.SameBut ce.locals z.heap h' → wpAny (model X.prog X.w) X.A (passOn "comprehension.variables-let-go" u ce : Sem Value) (fun _ z2 => SP X pins D .next z2) X.xe { z with heap := h' } := ⟨_, rfl⟩
  suffices hh : codeAny (model X.prog X.w) X.A (.compStart (.ListComp elt [⟨tg, iter, ifs, 0⟩] scope pos) 0 (.ref it) (.ref L) ce) R { s3 with heap := pushCells (s3.heap.push { cls := .type "dict", data := .dict #[] }) scope.names } by
    have ece : ce = { newEnv scope s3.heap.objs.size X.env.globals (cellsFrom (s3.heap.objs.size + 1) scope.names []) X.env.qual none .none (some X.env) X.env.builtins with scope := scope } := by
      rw [hce]
      unfold compEnvC
      rw [relab_none nf, clos_none nf]
      rfl
    rw [hR, ece] at hh
    exact hh
  rw [← hce] at I4 pg pt pe
  generalize hH3 : upd H2 L (.lst []) = H3 at I3 I4 pg pt pe w0 f3
  have nfp : ∀ b ∈ fp, H3 b = none := fun b hb => (f3 b hb).1.1
  generalize hs4 : ({ s3 with heap := pushCells (s3.heap.push { cls := .type "dict", data := .dict #[] }) scope.names } : Shared) = s4 at I4 ⊢
  have st4 : tn 0 s4.heap := T.keep _ _ _ st3 fun b _ o e => by rw [← hs4]; exact pushCells_keeps _ _ _ _ (Heap.get?_push_of_some _ e)
  have calls : ∀ b ∈ fp, (b ∈ X.ex ∨ X.s_0.heap.objs.size ≤ b) ∧ b ≠ X.env.locals ∧ (∀ x c, X.env.cells.lookup x = some c → c ≠ b) ∧ ∀ p ∈ X.pn ++ pins, p.1 ≠ b := fun b hb =>
    let z := (f3 b hb).1.2
    ⟨z.2.2.1, z.1, z.2.2.2.1, z.2.2.2.2⟩
  have stat : ∀ {σ' : St} {H' : Hp} {z : Shared}, Inv (X.blk s3 H3 scope ce fp) [] σ' H' z → (∀ b ∈ fp, H' b = none) → ∀ b ∈ fp, FpOk (X.blk s3 H3 scope ce fp) [] H' b := fun {σ' H' z} I' hn b hb =>
    ⟨hn b hb, (I'.ok.exf b hb).1, I'.ok.exfs b hb, .inl hb, (fun x c e => (I'.ok.exf b hb).2 x c e), fun p hp => by simp at hp⟩
  have loop : codeAny (model X.prog X.w) X.A (.compLoop (.ListComp elt [⟨tg, iter, ifs, 0⟩] scope pos) 0 (.ref it) (.ref L) ce) R s4 := by
    refine compLoop_any (fun n z => ∃ j K, Inv (X.blk s3 H3 scope ce fp) [] (wipe σ (own.map (·.2))) K z ∧ tn j z.heap ∧ (∀ b ∈ fp, K b = none) ∧ WW j n K) ?_ m0 ⟨0, H3, I4, st4, nfp, w0⟩
    rintro n s5 ⟨j, H5, I5, st5, n5, w5⟩
    rcases turn j n H5 w5 with ⟨stop, qq⟩ | ⟨go, Nx, hNx, step⟩
    · refine thnF (T.done (X.blk s3 H3 scope ce fp) rfl rfl rfl hc j [] s5 _ H5 (fun _ _ => False) I5 (stat I5 n5) st5 stop) fun r s6 hr6 => ?_
      obtain ⟨hr, I6⟩ := hr6
      subst hr
      have I7 : Inv X pins σ H5 s6 := I3.call' (ch := fp) I6.os I6.base I6.hok I6.bare calls
      have nC : H5 ce.locals = none := I6.free
      obtain ⟨m, hn, _⟩ := I6.loc
      have hn : s6.heap.Ns ce.locals m := hn
      have f7 : FpOk X pins H5 ce.locals := I3.fpOk (by rw [cL]; exact Nat.le_refl _) nC
      obtain ⟨c0, c1, c2, c3, c4, c5⟩ := f7
      rw [hR]
      show wpAny _ _ (assign (.Name y py) X.env (.ref L)) _ _ _
      refine wpAny_assign_Name (store_ok2 (v := V.ref L) I7 hN hy (.inl hyl) rfl (fun s8 I8 h8 => ?_) (.inr hyl))
      obtain ⟨a8, sb8, ha8⟩ := h8
      have ne8 : ce.locals ≠ a8 := by
        rcases ha8 with z | z
        · rw [z]; exact c1
        · exact fun e => c4 y a8 z e.symm
      refine ⟨m, hn.sameBut sb8 ne8, fun h9 sb9 => ⟨_, H5, I8.turned (t' := s8.toks) (fun b o hb e => (sb9.2 b hb).trans e) c0 c1 c3 c4 c5, qq⟩⟩
    · refine thnF (T.item (X.blk s3 H3 scope ce fp) rfl rfl rfl hc j [] s5 _ H5 (fun _ _ => False) I5 (stat I5 n5) st5 go) fun r s6 hr6 => ?_
      obtain ⟨u, hr, h6⟩ := hr6
      subst hr
      refine thnF h6 fun _ s7 h7 => ?_
      obtain ⟨x, H7, I7, r7, y7, st7, n7⟩ := h7
      have I7p := I7.pinned (stat I7 n7) (T.obj _ _ st7)
      refine thnF (pg.run _ s7 _ H7 x u _ I7p r7 (step x H7 y7)) fun _ s8 h8 => ?_
      obtain ⟨σ8, H8, I8, hw8, q8⟩ := h8
      refine thnF (pt.run _ s8 σ8 H8 _ I8 q8) fun b s9 h9 => ?_
      obtain ⟨H9, I9, q9⟩ := h9
      have fin : ∀ {z : Shared} {K : Hp}, Inv (X.blk s3 H3 scope ce fp) ([] ++ pinsAt fp s7.heap) σ8 K z → Nx K → ∃ m, m < n ∧ ∃ j K, Inv (X.blk s3 H3 scope ce fp) [] (wipe σ (own.map (·.2))) K z ∧ tn j z.heap ∧ (∀ b ∈ fp, K b = none) ∧ WW j m K := fun {z K} I' nx => by
        obtain ⟨m', hm, w'⟩ := hNx K nx
        have pin' : ∀ b ∈ fp, ∀ o, s7.heap.get? b = some o → z.heap.get? b = some o ∧ K b = none := fun b hb o e =>
          let zz := I'.pin (b, o) (List.mem_append_right _ (List.mem_append_right _ (mem_pinsAt hb e)))
          ⟨zz.1, zz.2.1⟩
        have hl8 : (wipe σ (own.map (·.2))).length = σ8.length := by rw [← hw8, L2.wipe_length]
        refine ⟨m', hm, j + 1, K, (I'.unpinned (pins := [])).weak hl8 (fun k v e => (wipe_some (by rw [hw8]; exact e)).1), T.keep _ _ _ st7 fun b hb o e => (pin' b hb o e).1, fun b hb => ?_, w'⟩
        obtain ⟨o, e, _⟩ := T.obj _ _ st7 b hb
        exact (pin' b hb o e).2
      cases b with
      | false =>
        simp only [Bool.false_eq_true, if_false] at q9 ⊢
        exact fin I9 q9
      | true =>
        simp only [if_true] at q9 ⊢
        have okB := I9.ok
        refine wpAny_mono ((pe (fun c d _ K => W c d σ K) _ (fun u z => notedBy (model X.prog X.w) X.A ce (fun e z2 => R (.error e) z2) u z) ?_).run [] s9 σ8 H9 _ (I9.toTry _) q9) (fun yv s10 h10 => ?_) (fun _ _ z => z)
        · intro σ' pins' K z u z' IK cx
          show wpAny _ _ _ _ _ _
          rw [hR]
          exact blk_air hs hf tk I3 cL cF calls (IK.ofTry okB) (fun _ _ _ w => w) cx
        · obtain ⟨yy, H10, I10, r10, acc, hL10, hz10, nx⟩ := h10
          exact app_ok (X := X.blk s3 H3 scope ce fp) (I10.ofTry okB) hL10 hz10 r10 fun s11 I11 => fin I11 nx
  exact codeAny_compStart_list loop (T.self X.A 0 _ _ _ st4 loop)
end
/-! ### readings -/
def compX (chk : Sto → Bool) (tg : Itm → St → Sto → R St) (tt : St → Sto → R Bool) (te : St → Sto → R V) : List Itm → St → Sto → R (List V)
  | [], σ, S => if chk S = true then .ok [] S else .bad
  | x :: xs, σ, S => if chk S = true then (tg x σ S).nox.bind fun σ1 S1 => (tt σ1 S1).nox.bind fun b S2 => if b = true then (te σ1 S2).bind fun y S3 => (compX chk tg tt te xs σ S3).bind fun ys S4 => .ok (y :: ys) S4
      else compX chk tg tt te xs σ S2
    else .bad
def eCompX (mi : St → Sto → R AI) (tg : Itm → St → Sto → R St) (tt : St → Sto → R Bool) (te : St → Sto → R V) (own : List Nat) : St → Sto → R V := fun σ S => (mi σ S).bind fun a S1 => (compX a.2 tg tt te a.1 (wipe σ own) S1).bind fun ys S2 => alloc (.lst ys) S2
section
variable {K : PySem.W.Frag} {η : List Addr} {S : Sto} {H : Hp} {X : Cx} {W : WX} {e : Expr} {m : St → Sto → R V} {pos : Pos}
theorem Po.bindE {α β γ δ : Type} {mg : Str → Option Value} {W : WX} {σ σ' : St} {rel : List Addr → α → β → Prop} {rel2 : List Addr → γ → δ → Prop} {η1 : List Addr} {H1 : Hp} {r : R α} {f : α → Sto → R γ} {Q : δ → Hp → Prop} (e1 : Ext η1 H1 η H) (p : Po K mg W σ rel2 η1 H1 (r.bind f) Q) :
    Po K mg (fun c d _ K => W c d σ K) σ' rel η H r (fun u H' => ∃ η' S' v, Ext η H η' H' ∧ Rel K η' S' H' ∧ rel η' v u ∧ Po K mg W σ rel2 η1 H1 (f v S') Q) := by
  cases r with
  | ok v S' => exact fun η' H' u e' r q => ⟨η', S', v, e', r, q, p⟩
  | exc c S' => exact fun η' H' C e' r q => p η' H' C (e1.trans e') r q
  | bad => exact p.elim
theorem lf_lcR {mi : St → Sto → R AI} {tg : Itm → St → Sto → R St} {tt : St → Sto → R Bool} {te : St → Sto → R V} {own : List Nat} {wi : TI} {g : TG} {is : List Nat} {Y : WX → Cx}
    (hY : ∀ W', (Y W').K = X.K ∧ (Y W').mg = X.mg)
    (hi : ∀ σ H Q, lfI X W mi σ H Q → wi σ H Q) (hg : ∀ η S H σ0 σ it x H' Q, Rel X.K η S H → SR η σ0 σ → YldR η it H x H' → Po X.K X.mg W0 σ SR η H (tg it σ0 S) Q → g x σ H' fun σ2 H2 => (∃ us, σ2 = gTs is us σ) ∧ Q σ2 H2)
    (hm : ∀ x σ H Q Q', (∀ a b, Q a b → Q' a b) → g x σ H Q → g x σ H Q') (his : ∀ i ∈ is, i ∈ own) {σ : St} {H : Hp} {Q : VK} (h : lfE X W (eCompX mi tg tt te own) σ H Q) : tLc wi g (lfT X W0 tt) (lfE (Y fun c d _ K => W c d σ K) (fun c d _ K => W c d σ K) te) own σ H Q := by
  refine hi σ H _ ?_
  obtain ⟨η, S, σ0, hR, hS, p⟩ := h
  refine ⟨η, S, σ0, hR, hS, (Po.bind (rel := JR X.K) p).imp fun J H1 ⟨η1, S1, a, e1, hR1, j, p1⟩ => ?_⟩
  obtain ⟨items, chk⟩ := a
  intro D hD
  have hSw : ∀ η2, η1 <+: η2 → SR η2 (wipe σ0 own) (wipe σ own) := fun η2 h2 => (hS.mono (e1.1.trans h2)).wipe own
  refine ⟨fun i m H => m = items.length - i ∧ i ≤ items.length ∧ ∃ η S acc us, Ext η1 H1 η H ∧ Rel X.K η S H ∧ H D = some (.lst us) ∧ VsR η acc us ∧ D ∉ η.drop 1 ∧ acc.length ≤ i ∧
    Po X.K X.mg W σ VR η1 H1 ((compX chk tg tt te (items.drop i) (wipe σ0 own) S).bind fun ys S2 => alloc (.lst (acc ++ ys)) S2) Q, ?_, ?_⟩
  · exact ⟨items.length, by simp, Nat.zero_le _, η1, S1, [], [], Ext.side hD _, hR1.side hD _, upd_same, .nil, hR1.off hD, Nat.le_refl _, p1⟩
  · rintro i mm H2 ⟨rfl, hil, η2, S2, acc, us, e2, hR2, hDu, hacc, hDo, hal, p2⟩
    by_cases hlt : i < items.length
    · have ed : items.drop i = items[i] :: items.drop (i + 1) := (List.drop_eq_getElem_cons hlt)
      rw [ed] at p2
      unfold compX at p2
      by_cases hk : chk S2 = true
      · rw [if_pos hk] at p2
        obtain ⟨hgo, hy⟩ := j.go η2 S2 H2 i items[i] e2.1 hR2 hk (List.getElem?_eq_getElem hlt)
        refine .inr ⟨hgo, fun H' => ∃ η S acc us, Ext η1 H1 η H' ∧ Rel X.K η S H' ∧ H' D = some (.lst us) ∧ VsR η acc us ∧ D ∉ η.drop 1 ∧ acc.length ≤ i + 1 ∧
          Po X.K X.mg W σ VR η1 H1 ((compX chk tg tt te (items.drop (i + 1)) (wipe σ0 own) S).bind fun ys S2 => alloc (.lst (acc ++ ys)) S2) Q, fun H' q => ⟨items.length - (i + 1), by omega, rfl, hlt, q⟩, fun x H' y => ?_⟩
        have as : ∀ {α β γ : Type} (r : R α) (f : α → Sto → R β) (k : β → Sto → R γ), (r.bind f).bind k = r.bind fun a S => (f a S).bind k := fun r f k => by cases r <;> rfl
        rw [as] at p2
        refine hm _ _ _ _ _ (fun σ3 H3 z => ?_) (hg η2 S2 H2 (wipe σ0 own) (wipe σ own) items[i] x H' _ hR2 (hSw η2 e2.1) (hy x H' y) (Po.bindB (rel := SR) (η := η2) (H := H2) p2))
        obtain ⟨⟨us3, rfl⟩, η3, S3, σ03, e3, hR3, hS3, p3⟩ := z
        refine ⟨by rw [wipe_sets his, wipe_wipe], ?_⟩
        rw [as] at p3
        refine ⟨η3, S3, σ03, hR3, hS3, (Po.bindB (rel := fun _ a b => b = a) (η := η3) (H := H3) p3).imp fun b H4 ⟨η4, S4, b', e4, hR4, rb, p4⟩ => ?_⟩
        subst rb
        have e24 := e3.trans e4
        obtain ⟨hD4, hDo4⟩ := e24.2.1 D _ hDu hDo rfl
        cases b with
        | false =>
          rw [if_neg Bool.false_ne_true] at p4 ⊢
          exact ⟨η4, S4, acc, us, e2.trans e24, hR4, hD4, hacc.mono e24.1, hDo4, by omega, p4⟩
        | true =>
          rw [if_pos rfl] at p4 ⊢
          rw [as] at p4
          have yk := hY fun c d _ K => W c d σ K
          refine ⟨η4, S4, σ03, by rw [yk.1]; exact hR4, hS3.mono e4.1, ?_⟩
          rw [yk.1, yk.2]
          refine (Po.bindE (rel := VR) (η := η4) (H := H4) (e2.trans e24) p4).imp fun v H5 ⟨η5, S5, v', e5, hR5, rv, p5⟩ => ?_
          obtain ⟨hD5, hDo5⟩ := e5.2.1 D _ hD4 hDo4 rfl
          have hl := hacc.length
          have hjl := j.len
          refine ⟨us, hD5, by
            have : items.length ≤ sizeLine := hjl
            omega, η5, S5, acc ++ [v'], us ++ [v], ((e2.trans e24).trans e5).upd hD _, hR5.other hDo5 (fun o us' q => by rw [hD5] at q; cases q) _ (imm_lst hD5), upd_same, papp (hacc.mono (e24.1.trans e5.1)) (.cons rv .nil), hDo5, by simp; omega, ?_⟩
          rw [as] at p5
          have eq : (fun a S => ((R.ok (v' :: a) S).bind fun ys S2 => alloc (.lst (acc ++ ys)) S2)) = fun ys S2 => alloc (.lst (acc ++ [v'] ++ ys)) S2 := by
            funext a S
            show alloc (.lst (acc ++ v' :: a)) S = _
            rw [List.append_assoc]; rfl
          rw [← eq]
          exact p5
      · rw [if_neg hk] at p2; exact p2.elim
    · have ei : i = items.length := by omega
      subst ei
      rw [List.drop_length] at p2
      unfold compX at p2
      by_cases hk : chk S2 = true
      · rw [if_pos hk] at p2
        refine .inl ⟨j.stop η2 S2 H2 e2.1 hR2 hk, ?_⟩
        have hjl := j.len
        have p2 : Po X.K X.mg W σ VR η1 H1 (alloc (.lst (acc ++ [])) S2) Q := p2
        rw [List.append_nil] at p2
        exact p2 (η2 ++ [D]) H2 (.ref D) (Ext.add hR2 e2 hD) (hR2.add hDo (o := .lst acc) ⟨Nat.le_trans hal hjl, us, hDu, hacc.mono (List.prefix_append _ _)⟩ rfl) (VR.new hR2)
      · rw [if_neg hk] at p2; exact p2.elim
/-- a call of a def in a place where only a call's exception is taken -/
theorem fe_callP {x : Str} {p : Pos} {e : Expr} {es : List Expr} {j k n : Nat} {m : List V → Sto → R V} {mr : St → Sto → R (List V)} (D : Df X.prog X.w X.K X.mg X.base x k n m) (hr : Room j X.A) (hj : k ≤ j) (hg : Gl X x)
    (pa : ∀ σ, PassesAt (L2.CX X.prog X.w) X σ (WE W σ)) (ha : FA X W (e :: es) mr) (hl : (e :: es).length = n := by rfl) (hdb : (x == ("__debug__" : Str)) = false := by decide)
    (he : starEach (e :: es) X.env = (false, eval e X.env) :: starEach es X.env := by rfl) (hpl : (backTo pos (starEach es X.env)).any (·.1) = false := by rfl) : FE X W (.Call (.Name x p) (e :: es) [] pos) (eCl n m mr) := by
  obtain ⟨f, fd, ps, F, hm, hk, hb⟩ := D.ex
  exact ⟨PE.wk (pe_callS F (hr.mono hj) hg hm hk hb pa ha.run hdb he hpl) fun σ H Q h => by
    obtain ⟨η, S, σ0, hR, hS, p⟩ := h
    refine ⟨η, S, σ0, hR, hS, (Po.bind (rel := VsR) p).imp fun u H1 ⟨η1, S1, v, e1, hR1, r1, p1⟩ => ?_⟩
    by_cases hv : v.length = n
    · rw [if_pos hv] at p1
      refine ⟨by rw [← r1.length]; exact hv, η1, S1, v, hR1, r1, ?_⟩
      exact p1
    · rw [if_neg hv] at p1; exact p1.elim⟩
theorem fs_setLcR {i : Nat} {y : Str} {py : Pos} {elt tg iter : Expr} {ifs : List Expr} {scope : Scope} {own : List (Str × Nat)} {spos : Pos} {mi : St → Sto → R AI} {t : Itm → St → Sto → R St} {g : TG} {is : List Nat} {tt : St → Sto → R Bool} {te : St → Sto → R V}
    (hs : X.stack = X.env :: X.outer) (hf : X.env.frame = some X.env.locals) (tk : Takes X W) (hc : X.calm = true) (hN : X.N.Nodup) (hy : X.N[i]? = some y) (hyl : X.env.scope.names.lookup y = some .local)
    (hsw : swapsWith (.ListComp elt [⟨tg, iter, ifs, 0⟩] scope pos) (some (.Name y py)) spos.line X.env = pure true) (hi : FI X W tg iter mi) (ok : BlkOk X.N X.env.scope scope own) (nf : ∀ x ∈ scope.names, x.2 ≠ .free)
    (hg : ∀ (s : Shared) (H : Hp) (C : Addr) (cl : List (Str × Addr)) (fp : List Addr), FGI (X.blk s H scope (compEnvC scope cl C X.env) fp) W0 tg t g is) (ht : ∀ (s : Shared) (H : Hp) (C : Addr) (cl : List (Str × Addr)) (fp : List Addr), FTs (X.blk s H scope (compEnvC scope cl C X.env) fp) W0 ifs tt)
    (he : ∀ (W' : WX) (pn : List (Addr × Obj)) (xe : Value → Shared → Prop) (s : Shared) (H : Hp) (C : Addr) (cl : List (Str × Addr)) (fp : List Addr), (∀ σ, PassesAt (L2.CX X.prog X.w) ((X.blk s H scope (compEnvC scope cl C X.env) fp).tr pn xe) σ (WE W' σ)) → FE ((X.blk s H scope (compEnvC scope cl C X.env) fp).tr pn xe) W' elt te)
    (his : ∀ i ∈ is, i ∈ own.map (·.2) := by decide) (hsf : ∀ x, foldedSetIterable iter X.env x = pure x := by intro _; rfl) :
    FS X W (.Assign [.Name y py] (.ListComp elt [⟨tg, iter, ifs, 0⟩] scope pos) spos) (sSet i (eCompX mi t tt te (own.map (·.2)))) := by
  obtain ⟨wi, h1, h2⟩ := hi.run
  have sh : Shared := {}
  refine ⟨PS.wk (ps_setLcR (te := fun W' => lfE X W' te) (tt := lfT X W0 tt) hs hf tk hc hN hy hyl hsw h1 ok nf (fun s H C cl fp => (hg s H C cl fp).pg) (fun s H C cl fp => (ht s H C cl fp).run) (fun W' pn xe s H C cl fp pa => (he W' pn xe s H C cl fp pa).run) hsf) fun D σ H h => ?_⟩
  refine lf_lcR (Y := fun _ => X) (fun _ => ⟨rfl, rfl⟩) h2 (hg sh (fun _ => none) 0 [] []).run (hg sh (fun _ => none) 0 [] []).mono his ?_
  obtain ⟨η, S, σ0, hR, hS, p⟩ := h
  refine ⟨η, S, σ0, hR, hS, (PoS.expr (rel := VR) hS p).imp fun u H1 ⟨η1, S1, v, e1, hR1, r1, p1⟩ => ?_⟩
  exact p1.now hR1 ((hS.mono e1.1).set i r1)
end
end Fx
/-! Fx: equations of the readings for simp only [ev]; printed by mkev.py. -/
namespace Fx
open PySem L2
def chkL (v : V) (xs : List V) : Sto → Bool := fun S => rdL v S == some xs
def chkZ (v w : V) (xs ys : List V) : Sto → Bool := fun S => (rdL v S == some xs) && (rdL w S == some ys)
def chkY : Sto → Bool := fun _ => true
def kIL2 (o : Option (List V)) (v : V) (S : Sto) : R AI := match o with
  | some xs => .ok (xs.map .one, chkL v xs) S
  | none => .bad
def kZ2 (o p : Option (List V)) (v w : V) (S : Sto) : R AI := match o, p with
  | some xs, some ys => .ok (zipI xs ys, chkZ v w xs ys) S
  | _, _ => .bad
def rng1 (j : Int) (S : Sto) : R AI := if j ≤ 16777216 then (if -1000000 ≤ j then .ok (rngI 0 j.toNat, chkY) S else .bad) else .bad
def rng2 (i j : Int) (S : Sto) : R AI := if -1000000 ≤ i ∧ i ≤ 1000000 ∧ -1000000 ≤ j ∧ j ≤ 1000000 then .ok (rngI i (j - i).toNat, chkY) S else .bad
theorem kIL2_ok (xs : List V) (v : V) (S : Sto) : kIL2 (some xs) v S = .ok (xs.map .one, chkL v xs) S := rfl
theorem kZ2_ok (xs ys : List V) (v w : V) (S : Sto) : kZ2 (some xs) (some ys) v w S = .ok (zipI xs ys, chkZ v w xs ys) S := rfl
theorem rng1_ok {j : Int} (h : -1000000 ≤ j ∧ j ≤ 1000000) (S : Sto) : rng1 j S = .ok (rngI 0 j.toNat, chkY) S := by
  unfold rng1; rw [if_pos (by omega), if_pos (by omega)]
theorem rng2_ok {i j : Int} (h : -1000000 ≤ i ∧ i ≤ 1000000 ∧ -1000000 ≤ j ∧ j ≤ 1000000) (S : Sto) : rng2 i j S = .ok (rngI i (j - i).toNat, chkY) S := by
  unfold rng2; rw [if_pos h]
def kV (o : Option (Option V)) (S : Sto) : R V := match o with
  | some (some v) => .ok v S
  | _ => .bad
theorem kV_ok (v : V) (S : Sto) : kV (some (some v)) S = .ok v S := rfl
def kGT (o : Option (List V)) (is : List Nat) (σ : St) (S : Sto) : R St := match o with
  | some xs => if xs.length = is.length then .ok (gTs is xs σ) S else .bad
  | none => .bad
theorem kGT1 (x : V) (i : Nat) (σ : St) (S : Sto) : kGT (some [x]) [i] σ S = .ok (σ.set i (some x)) S := rfl
theorem kGT2 (x y : V) (i j : Nat) (σ : St) (S : Sto) : kGT (some [x, y]) [i, j] σ S = .ok ((σ.set i (some x)).set j (some y)) S := rfl
theorem kGT3 (x y z : V) (i j k : Nat) (σ : St) (S : Sto) : kGT (some [x, y, z]) [i, j, k] σ S = .ok (((σ.set i (some x)).set j (some y)).set k (some z)) S := rfl
theorem kGT4 (x y z w : V) (i j k l : Nat) (σ : St) (S : Sto) : kGT (some [x, y, z, w]) [i, j, k, l] σ S = .ok ((((σ.set i (some x)).set j (some y)).set k (some z)).set l (some w)) S := rfl
def kSq (r : R Fl) (b : St → Sto → R Fl) : R Fl := match r with
  | .ok (.nx σ1) S1 => b σ1 S1
  | r => r
theorem kSq_nx (σ : St) (S : Sto) (b : St → Sto → R Fl) : kSq (.ok (.nx σ) S) b = b σ S := rfl
theorem kSq_rt (v : V) (S : Sto) (b : St → Sto → R Fl) : kSq (.ok (.rt v) S) b = .ok (.rt v) S := rfl
theorem kSq_bk (σ : St) (S : Sto) (b : St → Sto → R Fl) : kSq (.ok (.bk σ) S) b = .ok (.bk σ) S := rfl
theorem kSq_ct (σ : St) (S : Sto) (b : St → Sto → R Fl) : kSq (.ok (.ct σ) S) b = .ok (.ct σ) S := rfl
theorem kSq_rs (c : String) (σ : St) (S : Sto) (b : St → Sto → R Fl) : kSq (.ok (.rs c σ) S) b = .ok (.rs c σ) S := rfl

def kO2 (r : R V) (m : V → V → Sto → R V) (x : V) : R V := match r with
  | .ok y S => m x y S
  | .exc c S => .exc c S
  | .bad => .bad
theorem kO2_ok (y : V) (S : Sto) (m : V → V → Sto → R V) (x : V) : kO2 (.ok y S) m x = m x y S := rfl
theorem kO2_exc (c : String) (S : Sto) (m : V → V → Sto → R V) (x : V) : kO2 (.exc c S) m x = .exc c S := rfl
def kO1 (r : R V) (m : V → V → Sto → R V) (mb : St → Sto → R V) (σ : St) : R V := match r with
  | .ok x S => kO2 (mb σ S) m x
  | .exc c S => .exc c S
  | .bad => .bad
theorem kO1_ok (x : V) (S : Sto) (m : V → V → Sto → R V) (mb : St → Sto → R V) (σ : St) : kO1 (.ok x S) m mb σ = kO2 (mb σ S) m x := rfl
theorem kO1_exc (c : String) (S : Sto) (m : V → V → Sto → R V) (mb : St → Sto → R V) (σ : St) : kO1 (.exc c S) m mb σ = .exc c S := rfl
def kU (r : R V) (m : V → Sto → R V) : R V := match r with
  | .ok x S => m x S
  | .exc c S => .exc c S
  | .bad => .bad
theorem kU_ok (x : V) (S : Sto) (m : V → Sto → R V) : kU (.ok x S) m = m x S := rfl
theorem kU_exc (c : String) (S : Sto) (m : V → Sto → R V) : kU (.exc c S) m = .exc c S := rfl
def kC2 (r : R (List V)) (x : V) : R (List V) := match r with
  | .ok xs S => .ok (x :: xs) S
  | .exc c S => .exc c S
  | .bad => .bad
theorem kC2_ok (xs : List V) (S : Sto) (x : V) : kC2 (.ok xs S) x = .ok (x :: xs) S := rfl
theorem kC2_exc (c : String) (S : Sto) (x : V) : kC2 (.exc c S) x = .exc c S := rfl
def kC1 (r : R V) (mr : St → Sto → R (List V)) (σ : St) : R (List V) := match r with
  | .ok x S => kC2 (mr σ S) x
  | .exc c S => .exc c S
  | .bad => .bad
theorem kC1_ok (x : V) (S : Sto) (mr : St → Sto → R (List V)) (σ : St) : kC1 (.ok x S) mr σ = kC2 (mr σ S) x := rfl
theorem kC1_exc (c : String) (S : Sto) (mr : St → Sto → R (List V)) (σ : St) : kC1 (.exc c S) mr σ = .exc c S := rfl
def kLst (r : R (List V))  : R V := match r with
  | .ok xs S => if xs.length ≤ 16777216 then .ok (.ref S.length) (S ++ [.lst xs]) else .bad
  | .exc c S => .exc c S
  | .bad => .bad
theorem kLst_ok (xs : List V) (S : Sto)  : kLst (.ok xs S)  = if xs.length ≤ 16777216 then .ok (.ref S.length) (S ++ [.lst xs]) else .bad := rfl
theorem kLst_exc (c : String) (S : Sto)  : kLst (.exc c S)  = .exc c S := rfl
def kTup (r : R (List V))  : R V := match r with
  | .ok xs S => if xs.length ≤ 16777216 then .ok (.ref S.length) (S ++ [.tup xs]) else .bad
  | .exc c S => .exc c S
  | .bad => .bad
theorem kTup_ok (xs : List V) (S : Sto)  : kTup (.ok xs S)  = if xs.length ≤ 16777216 then .ok (.ref S.length) (S ++ [.tup xs]) else .bad := rfl
theorem kTup_exc (c : String) (S : Sto)  : kTup (.exc c S)  = .exc c S := rfl
def kA (r : R (List V)) (m : List V → Sto → R V) : R V := match r with
  | .ok xs S => m xs S
  | .exc c S => .exc c S
  | .bad => .bad
theorem kA_ok (xs : List V) (S : Sto) (m : List V → Sto → R V) : kA (.ok xs S) m = m xs S := rfl
theorem kA_exc (c : String) (S : Sto) (m : List V → Sto → R V) : kA (.exc c S) m = .exc c S := rfl
def kCl (r : R (List V)) (n : Nat) (m : List V → Sto → R V) : R V := match r with
  | .ok xs S => if xs.length = n then m xs S else .bad
  | .exc c S => .exc c S
  | .bad => .bad
theorem kCl_ok (xs : List V) (S : Sto) (n : Nat) (m : List V → Sto → R V) : kCl (.ok xs S) n m = if xs.length = n then m xs S else .bad := rfl
theorem kCl_exc (c : String) (S : Sto) (n : Nat) (m : List V → Sto → R V) : kCl (.exc c S) n m = .exc c S := rfl
def kM0 (r : R V) (t : V → Sto → Bool) (m : V → List V → Sto → R V) : R V := match r with
  | .ok x S => if t x S = true then m x [] S else .bad
  | .exc c S => .exc c S
  | .bad => .bad
theorem kM0_ok (x : V) (S : Sto) (t : V → Sto → Bool) (m : V → List V → Sto → R V) : kM0 (.ok x S) t m = if t x S = true then m x [] S else .bad := rfl
theorem kM0_exc (c : String) (S : Sto) (t : V → Sto → Bool) (m : V → List V → Sto → R V) : kM0 (.exc c S) t m = .exc c S := rfl
def kM2 (r : R (List V)) (m : V → List V → Sto → R V) (x : V) : R V := match r with
  | .ok xs S => m x xs S
  | .exc c S => .exc c S
  | .bad => .bad
theorem kM2_ok (xs : List V) (S : Sto) (m : V → List V → Sto → R V) (x : V) : kM2 (.ok xs S) m x = m x xs S := rfl
theorem kM2_exc (c : String) (S : Sto) (m : V → List V → Sto → R V) (x : V) : kM2 (.exc c S) m x = .exc c S := rfl
def kM1 (r : R V) (t : V → Sto → Bool) (m : V → List V → Sto → R V) (mr : St → Sto → R (List V)) (σ : St) : R V := match r with
  | .ok x S => if t x S = true then kM2 (mr σ S) m x else .bad
  | .exc c S => .exc c S
  | .bad => .bad
theorem kM1_ok (x : V) (S : Sto) (t : V → Sto → Bool) (m : V → List V → Sto → R V) (mr : St → Sto → R (List V)) (σ : St) : kM1 (.ok x S) t m mr σ = if t x S = true then kM2 (mr σ S) m x else .bad := rfl
theorem kM1_exc (c : String) (S : Sto) (t : V → Sto → Bool) (m : V → List V → Sto → R V) (mr : St → Sto → R (List V)) (σ : St) : kM1 (.exc c S) t m mr σ = .exc c S := rfl
def kTV (r : R V)  : R Bool := match r with
  | .ok v S => match v with | .bl b => .ok b S | _ => .bad
  | .exc c S => .exc c S
  | .bad => .bad
theorem kTV_ok0 (b : Bool) (S : Sto)  : kTV (.ok (.bl b) S)  = .ok b S := rfl
theorem kTV_exc (c : String) (S : Sto)  : kTV (.exc c S)  = .exc c S := rfl
def kAn (r : R Bool) (u : St → Sto → R Bool) (σ : St) : R Bool := match r with
  | .ok c S => if c = true then u σ S else .ok false S
  | .exc c S => .exc c S
  | .bad => .bad
theorem kAn_ok0  (S : Sto) (u : St → Sto → R Bool) (σ : St) : kAn (.ok true S) u σ = u σ S := rfl
theorem kAn_ok1  (S : Sto) (u : St → Sto → R Bool) (σ : St) : kAn (.ok false S) u σ = .ok false S := rfl
theorem kAn_exc (c : String) (S : Sto) (u : St → Sto → R Bool) (σ : St) : kAn (.exc c S) u σ = .exc c S := rfl
def kOr (r : R Bool) (u : St → Sto → R Bool) (σ : St) : R Bool := match r with
  | .ok c S => if c = true then .ok true S else u σ S
  | .exc c S => .exc c S
  | .bad => .bad
theorem kOr_ok0  (S : Sto) (u : St → Sto → R Bool) (σ : St) : kOr (.ok true S) u σ = .ok true S := rfl
theorem kOr_ok1  (S : Sto) (u : St → Sto → R Bool) (σ : St) : kOr (.ok false S) u σ = u σ S := rfl
theorem kOr_exc (c : String) (S : Sto) (u : St → Sto → R Bool) (σ : St) : kOr (.exc c S) u σ = .exc c S := rfl
def kN (r : R Bool)  : R Bool := match r with
  | .ok c S => .ok (!c) S
  | .exc c S => .exc c S
  | .bad => .bad
theorem kN_ok (c : Bool) (S : Sto)  : kN (.ok c S)  = .ok (!c) S := rfl
theorem kN_exc (c : String) (S : Sto)  : kN (.exc c S)  = .exc c S := rfl
def kEAn (r : R V) (u : St → Sto → R V) (σ : St) : R V := match r with
  | .ok x S => match x with | .bl true => u σ S | .bl false => .ok (.bl false) S | _ => .bad
  | .exc c S => .exc c S
  | .bad => .bad
theorem kEAn_ok0  (S : Sto) (u : St → Sto → R V) (σ : St) : kEAn (.ok (.bl true) S) u σ = u σ S := rfl
theorem kEAn_ok1  (S : Sto) (u : St → Sto → R V) (σ : St) : kEAn (.ok (.bl false) S) u σ = .ok (.bl false) S := rfl
theorem kEAn_exc (c : String) (S : Sto) (u : St → Sto → R V) (σ : St) : kEAn (.exc c S) u σ = .exc c S := rfl
def kEOr (r : R V) (u : St → Sto → R V) (σ : St) : R V := match r with
  | .ok x S => match x with | .bl true => .ok (.bl true) S | .bl false => u σ S | _ => .bad
  | .exc c S => .exc c S
  | .bad => .bad
theorem kEOr_ok0  (S : Sto) (u : St → Sto → R V) (σ : St) : kEOr (.ok (.bl true) S) u σ = .ok (.bl true) S := rfl
theorem kEOr_ok1  (S : Sto) (u : St → Sto → R V) (σ : St) : kEOr (.ok (.bl false) S) u σ = u σ S := rfl
theorem kEOr_exc (c : String) (S : Sto) (u : St → Sto → R V) (σ : St) : kEOr (.exc c S) u σ = .exc c S := rfl
def kENo (r : R V)  : R V := match r with
  | .ok x S => match x with | .bl c => .ok (.bl (!c)) S | _ => .bad
  | .exc c S => .exc c S
  | .bad => .bad
theorem kENo_ok0 (c : Bool) (S : Sto)  : kENo (.ok (.bl c) S)  = .ok (.bl (!c)) S := rfl
theorem kENo_exc (c : String) (S : Sto)  : kENo (.exc c S)  = .exc c S := rfl
def kIf (r : R Bool) (ma : St → Sto → R V) (mb : St → Sto → R V) (σ : St) : R V := match r with
  | .ok c S => if c = true then ma σ S else mb σ S
  | .exc c S => .exc c S
  | .bad => .bad
theorem kIf_ok0  (S : Sto) (ma : St → Sto → R V) (mb : St → Sto → R V) (σ : St) : kIf (.ok true S) ma mb σ = ma σ S := rfl
theorem kIf_ok1  (S : Sto) (ma : St → Sto → R V) (mb : St → Sto → R V) (σ : St) : kIf (.ok false S) ma mb σ = mb σ S := rfl
theorem kIf_exc (c : String) (S : Sto) (ma : St → Sto → R V) (mb : St → Sto → R V) (σ : St) : kIf (.exc c S) ma mb σ = .exc c S := rfl
def kCh4 (r : R V) (m' : V → V → Sto → R V) (y : V) : R V := match r with
  | .ok w S => m' y w S
  | .exc c S => .exc c S
  | .bad => .bad
theorem kCh4_ok (w : V) (S : Sto) (m' : V → V → Sto → R V) (y : V) : kCh4 (.ok w S) m' y = m' y w S := rfl
theorem kCh4_exc (c : String) (S : Sto) (m' : V → V → Sto → R V) (y : V) : kCh4 (.exc c S) m' y = .exc c S := rfl
def kCh3 (r : R V) (m' : V → V → Sto → R V) (y : V) (mc : St → Sto → R V) (σ : St) : R V := match r with
  | .ok z S => match z with | .bl true => kCh4 (mc σ S) m' y | .bl false => .ok (.bl false) S | _ => .bad
  | .exc c S => .exc c S
  | .bad => .bad
theorem kCh3_ok0  (S : Sto) (m' : V → V → Sto → R V) (y : V) (mc : St → Sto → R V) (σ : St) : kCh3 (.ok (.bl true) S) m' y mc σ = kCh4 (mc σ S) m' y := rfl
theorem kCh3_ok1  (S : Sto) (m' : V → V → Sto → R V) (y : V) (mc : St → Sto → R V) (σ : St) : kCh3 (.ok (.bl false) S) m' y mc σ = .ok (.bl false) S := rfl
theorem kCh3_exc (c : String) (S : Sto) (m' : V → V → Sto → R V) (y : V) (mc : St → Sto → R V) (σ : St) : kCh3 (.exc c S) m' y mc σ = .exc c S := rfl
def kCh2 (r : R V) (m : V → V → Sto → R V) (m' : V → V → Sto → R V) (x : V) (mc : St → Sto → R V) (σ : St) : R V := match r with
  | .ok y S => kCh3 (m x y S) m' y mc σ
  | .exc c S => .exc c S
  | .bad => .bad
theorem kCh2_ok (y : V) (S : Sto) (m : V → V → Sto → R V) (m' : V → V → Sto → R V) (x : V) (mc : St → Sto → R V) (σ : St) : kCh2 (.ok y S) m m' x mc σ = kCh3 (m x y S) m' y mc σ := rfl
theorem kCh2_exc (c : String) (S : Sto) (m : V → V → Sto → R V) (m' : V → V → Sto → R V) (x : V) (mc : St → Sto → R V) (σ : St) : kCh2 (.exc c S) m m' x mc σ = .exc c S := rfl
def kCh1 (r : R V) (m : V → V → Sto → R V) (m' : V → V → Sto → R V) (mb : St → Sto → R V) (mc : St → Sto → R V) (σ : St) : R V := match r with
  | .ok x S => kCh2 (mb σ S) m m' x mc σ
  | .exc c S => .exc c S
  | .bad => .bad
theorem kCh1_ok (x : V) (S : Sto) (m : V → V → Sto → R V) (m' : V → V → Sto → R V) (mb : St → Sto → R V) (mc : St → Sto → R V) (σ : St) : kCh1 (.ok x S) m m' mb mc σ = kCh2 (mb σ S) m m' x mc σ := rfl
theorem kCh1_exc (c : String) (S : Sto) (m : V → V → Sto → R V) (m' : V → V → Sto → R V) (mb : St → Sto → R V) (mc : St → Sto → R V) (σ : St) : kCh1 (.exc c S) m m' mb mc σ = .exc c S := rfl
def kPt (r : R V)  : R (Option Int) := match r with
  | .ok v S => match v with | .int i => .ok (some i) S | _ => .bad
  | .exc c S => .exc c S
  | .bad => .bad
theorem kPt_ok0 (i : Int) (S : Sto)  : kPt (.ok (.int i) S)  = .ok (some i) S := rfl
theorem kPt_exc (c : String) (S : Sto)  : kPt (.exc c S)  = .exc c S := rfl
def kSl3 (r : R (Option Int)) (x : V) (lo : Option Int) : R V := match r with
  | .ok hi S => cutM x lo hi S
  | .exc c S => .exc c S
  | .bad => .bad
theorem kSl3_ok (hi : Option Int) (S : Sto) (x : V) (lo : Option Int) : kSl3 (.ok hi S) x lo = cutM x lo hi S := rfl
theorem kSl3_exc (c : String) (S : Sto) (x : V) (lo : Option Int) : kSl3 (.exc c S) x lo = .exc c S := rfl
def kSl2 (r : R (Option Int)) (x : V) (mh : Option (St → Sto → R V)) (σ : St) : R V := match r with
  | .ok lo S => kSl3 (tPt mh σ S) x lo
  | .exc c S => .exc c S
  | .bad => .bad
theorem kSl2_ok (lo : Option Int) (S : Sto) (x : V) (mh : Option (St → Sto → R V)) (σ : St) : kSl2 (.ok lo S) x mh σ = kSl3 (tPt mh σ S) x lo := rfl
theorem kSl2_exc (c : String) (S : Sto) (x : V) (mh : Option (St → Sto → R V)) (σ : St) : kSl2 (.exc c S) x mh σ = .exc c S := rfl
def kSl1 (r : R V) (ml : Option (St → Sto → R V)) (mh : Option (St → Sto → R V)) (σ : St) : R V := match r with
  | .ok x S => kSl2 (tPt ml σ S) x mh σ
  | .exc c S => .exc c S
  | .bad => .bad
theorem kSl1_ok (x : V) (S : Sto) (ml : Option (St → Sto → R V)) (mh : Option (St → Sto → R V)) (σ : St) : kSl1 (.ok x S) ml mh σ = kSl2 (tPt ml σ S) x mh σ := rfl
theorem kSl1_exc (c : String) (S : Sto) (ml : Option (St → Sto → R V)) (mh : Option (St → Sto → R V)) (σ : St) : kSl1 (.exc c S) ml mh σ = .exc c S := rfl
def kCo2 (r : R (List V))  : R V := match r with
  | .ok ys S => .ok (.ref S.length) (S ++ [.lst ys])
  | .exc c S => .exc c S
  | .bad => .bad
theorem kCo2_ok (ys : List V) (S : Sto)  : kCo2 (.ok ys S)  = .ok (.ref S.length) (S ++ [.lst ys]) := rfl
theorem kCo2_exc (c : String) (S : Sto)  : kCo2 (.exc c S)  = .exc c S := rfl
def kCo1 (r : R AI) (g : Itm → St → Sto → R St) (tt : St → Sto → R Bool) (te : St → Sto → R V) (own : List Nat) (σ : St) : R V := match r with
  | .ok a S => kCo2 (compM a.2 g tt te a.1 (wipe σ own) S)
  | .exc c S => .exc c S
  | .bad => .bad
theorem kCo1_ok0 (items : List Itm) (chk : Sto → Bool) (S : Sto) (g : Itm → St → Sto → R St) (tt : St → Sto → R Bool) (te : St → Sto → R V) (own : List Nat) (σ : St) : kCo1 (.ok (items, chk) S) g tt te own σ = kCo2 (compM chk g tt te items (wipe σ own) S) := rfl
theorem kCo1_exc (c : String) (S : Sto) (g : Itm → St → Sto → R St) (tt : St → Sto → R Bool) (te : St → Sto → R V) (own : List Nat) (σ : St) : kCo1 (.exc c S) g tt te own σ = .exc c S := rfl
def kIL (r : R V)  : R AI := match r with
  | .ok v S => kIL2 (rdL v S) v S
  | .exc c S => .exc c S
  | .bad => .bad
theorem kIL_ok (v : V) (S : Sto)  : kIL (.ok v S)  = kIL2 (rdL v S) v S := rfl
theorem kIL_exc (c : String) (S : Sto)  : kIL (.exc c S)  = .exc c S := rfl
def kR1 (r : R (List V))  : R AI := match r with
  | .ok vs S => match vs with | [.int j] => rng1 j S | _ => .bad
  | .exc c S => .exc c S
  | .bad => .bad
theorem kR1_ok0 (j : Int) (S : Sto)  : kR1 (.ok [.int j] S)  = rng1 j S := rfl
theorem kR1_exc (c : String) (S : Sto)  : kR1 (.exc c S)  = .exc c S := rfl
def kR2 (r : R (List V))  : R AI := match r with
  | .ok vs S => match vs with | [.int i, .int j] => rng2 i j S | _ => .bad
  | .exc c S => .exc c S
  | .bad => .bad
theorem kR2_ok0 (i j : Int) (S : Sto)  : kR2 (.ok [.int i, .int j] S)  = rng2 i j S := rfl
theorem kR2_exc (c : String) (S : Sto)  : kR2 (.exc c S)  = .exc c S := rfl
def kZ (r : R (List V))  : R AI := match r with
  | .ok vs S => match vs with | [v, w] => kZ2 (rdL v S) (rdL w S) v w S | _ => .bad
  | .exc c S => .exc c S
  | .bad => .bad
theorem kZ_ok0 (v w : V) (S : Sto)  : kZ (.ok [v, w] S)  = kZ2 (rdL v S) (rdL w S) v w S := rfl
theorem kZ_exc (c : String) (S : Sto)  : kZ (.exc c S)  = .exc c S := rfl
def kRet (r : R V) (σ : St) : R Fl := match r with
  | .ok v S => .ok (.rt v) S
  | .exc c S => .ok (.rs c σ) S
  | .bad => .bad
theorem kRet_ok (v : V) (S : Sto) (σ : St) : kRet (.ok v S) σ = .ok (.rt v) S := rfl
theorem kRet_exc (c : String) (S : Sto) (σ : St) : kRet (.exc c S) σ = .ok (.rs c σ) S := rfl
def kEx (r : R V) (σ : St) : R Fl := match r with
  | .ok v S => .ok (.nx σ) S
  | .exc c S => .ok (.rs c σ) S
  | .bad => .bad
theorem kEx_ok (v : V) (S : Sto) (σ : St) : kEx (.ok v S) σ = .ok (.nx σ) S := rfl
theorem kEx_exc (c : String) (S : Sto) (σ : St) : kEx (.exc c S) σ = .ok (.rs c σ) S := rfl
def kSIf (r : R Bool) (a : St → Sto → R Fl) (b : St → Sto → R Fl) (σ : St) : R Fl := match r with
  | .ok k S => if k = true then a σ S else b σ S
  | .exc c S => .ok (.rs c σ) S
  | .bad => .bad
theorem kSIf_ok0  (S : Sto) (a : St → Sto → R Fl) (b : St → Sto → R Fl) (σ : St) : kSIf (.ok true S) a b σ = a σ S := rfl
theorem kSIf_ok1  (S : Sto) (a : St → Sto → R Fl) (b : St → Sto → R Fl) (σ : St) : kSIf (.ok false S) a b σ = b σ S := rfl
theorem kSIf_exc (c : String) (S : Sto) (a : St → Sto → R Fl) (b : St → Sto → R Fl) (σ : St) : kSIf (.exc c S) a b σ = .ok (.rs c σ) S := rfl
def kSet (r : R V) (i : Nat) (σ : St) : R Fl := match r with
  | .ok v S => .ok (.nx (σ.set i (some v))) S
  | .exc c S => .ok (.rs c σ) S
  | .bad => .bad
theorem kSet_ok (v : V) (S : Sto) (i : Nat) (σ : St) : kSet (.ok v S) i σ = .ok (.nx (σ.set i (some v))) S := rfl
theorem kSet_exc (c : String) (S : Sto) (i : Nat) (σ : St) : kSet (.exc c S) i σ = .ok (.rs c σ) S := rfl
def kAs2 (r : R St) (σ : St) : R Fl := match r with
  | .ok σ2 S => .ok (.nx σ2) S
  | .exc c S => .ok (.rs c σ) S
  | .bad => .bad
theorem kAs2_ok (σ2 : St) (S : Sto) (σ : St) : kAs2 (.ok σ2 S) σ = .ok (.nx σ2) S := rfl
theorem kAs2_exc (c : String) (S : Sto) (σ : St) : kAs2 (.exc c S) σ = .ok (.rs c σ) S := rfl
def kAs1 (r : R V) (t : V → St → Sto → R St) (σ : St) : R Fl := match r with
  | .ok v S => kAs2 (t v σ S) σ
  | .exc c S => .ok (.rs c σ) S
  | .bad => .bad
theorem kAs1_ok (v : V) (S : Sto) (t : V → St → Sto → R St) (σ : St) : kAs1 (.ok v S) t σ = kAs2 (t v σ S) σ := rfl
theorem kAs1_exc (c : String) (S : Sto) (t : V → St → Sto → R St) (σ : St) : kAs1 (.exc c S) t σ = .ok (.rs c σ) S := rfl
def kAg2 (r : R V) (i : Nat) (σ : St) : R Fl := match r with
  | .ok z S => .ok (.nx (σ.set i (some z))) S
  | .exc c S => .ok (.rs c σ) S
  | .bad => .bad
theorem kAg2_ok (z : V) (S : Sto) (i : Nat) (σ : St) : kAg2 (.ok z S) i σ = .ok (.nx (σ.set i (some z))) S := rfl
theorem kAg2_exc (c : String) (S : Sto) (i : Nat) (σ : St) : kAg2 (.exc c S) i σ = .ok (.rs c σ) S := rfl
def kAg1 (r : R V) (m : V → V → Sto → R V) (x : V) (i : Nat) (σ : St) : R Fl := match r with
  | .ok y S => kAg2 (m x y S) i σ
  | .exc c S => .ok (.rs c σ) S
  | .bad => .bad
theorem kAg1_ok (y : V) (S : Sto) (m : V → V → Sto → R V) (x : V) (i : Nat) (σ : St) : kAg1 (.ok y S) m x i σ = kAg2 (m x y S) i σ := rfl
theorem kAg1_exc (c : String) (S : Sto) (m : V → V → Sto → R V) (x : V) (i : Nat) (σ : St) : kAg1 (.exc c S) m x i σ = .ok (.rs c σ) S := rfl
def kG6 (r : R Unit) (σ : St) : R Fl := match r with
  | .ok u S => .ok (.nx σ) S
  | .exc c S => .ok (.rs c σ) S
  | .bad => .bad
theorem kG6_ok (u : Unit) (S : Sto) (σ : St) : kG6 (.ok u S) σ = .ok (.nx σ) S := rfl
theorem kG6_exc (c : String) (S : Sto) (σ : St) : kG6 (.exc c S) σ = .ok (.rs c σ) S := rfl
def kG5 (r : R V) (st : V → V → V → Sto → R Unit) (o : V) (i : V) (σ : St) : R Fl := match r with
  | .ok z S => kG6 (st o i z S) σ
  | .exc c S => .ok (.rs c σ) S
  | .bad => .bad
theorem kG5_ok (z : V) (S : Sto) (st : V → V → V → Sto → R Unit) (o : V) (i : V) (σ : St) : kG5 (.ok z S) st o i σ = kG6 (st o i z S) σ := rfl
theorem kG5_exc (c : String) (S : Sto) (st : V → V → V → Sto → R Unit) (o : V) (i : V) (σ : St) : kG5 (.exc c S) st o i σ = .ok (.rs c σ) S := rfl
def kG4 (r : R V) (op : V → V → Sto → R V) (st : V → V → V → Sto → R Unit) (o : V) (i : V) (x : V) (σ : St) : R Fl := match r with
  | .ok y S => kG5 (op x y S) st o i σ
  | .exc c S => .ok (.rs c σ) S
  | .bad => .bad
theorem kG4_ok (y : V) (S : Sto) (op : V → V → Sto → R V) (st : V → V → V → Sto → R Unit) (o : V) (i : V) (x : V) (σ : St) : kG4 (.ok y S) op st o i x σ = kG5 (op x y S) st o i σ := rfl
theorem kG4_exc (c : String) (S : Sto) (op : V → V → Sto → R V) (st : V → V → V → Sto → R Unit) (o : V) (i : V) (x : V) (σ : St) : kG4 (.exc c S) op st o i x σ = .ok (.rs c σ) S := rfl
def kG3 (r : R V) (me : St → Sto → R V) (op : V → V → Sto → R V) (st : V → V → V → Sto → R Unit) (o : V) (i : V) (σ : St) : R Fl := match r with
  | .ok x S => kG4 (me σ S) op st o i x σ
  | .exc c S => .ok (.rs c σ) S
  | .bad => .bad
theorem kG3_ok (x : V) (S : Sto) (me : St → Sto → R V) (op : V → V → Sto → R V) (st : V → V → V → Sto → R Unit) (o : V) (i : V) (σ : St) : kG3 (.ok x S) me op st o i σ = kG4 (me σ S) op st o i x σ := rfl
theorem kG3_exc (c : String) (S : Sto) (me : St → Sto → R V) (op : V → V → Sto → R V) (st : V → V → V → Sto → R Unit) (o : V) (i : V) (σ : St) : kG3 (.exc c S) me op st o i σ = .ok (.rs c σ) S := rfl
def kG2 (r : R V) (get : V → V → Sto → R V) (me : St → Sto → R V) (op : V → V → Sto → R V) (st : V → V → V → Sto → R Unit) (o : V) (σ : St) : R Fl := match r with
  | .ok i S => kG3 (get o i S) me op st o i σ
  | .exc c S => .ok (.rs c σ) S
  | .bad => .bad
theorem kG2_ok (i : V) (S : Sto) (get : V → V → Sto → R V) (me : St → Sto → R V) (op : V → V → Sto → R V) (st : V → V → V → Sto → R Unit) (o : V) (σ : St) : kG2 (.ok i S) get me op st o σ = kG3 (get o i S) me op st o i σ := rfl
theorem kG2_exc (c : String) (S : Sto) (get : V → V → Sto → R V) (me : St → Sto → R V) (op : V → V → Sto → R V) (st : V → V → V → Sto → R Unit) (o : V) (σ : St) : kG2 (.exc c S) get me op st o σ = .ok (.rs c σ) S := rfl
def kG1 (r : R V) (mi : St → Sto → R V) (get : V → V → Sto → R V) (me : St → Sto → R V) (op : V → V → Sto → R V) (st : V → V → V → Sto → R Unit) (σ : St) : R Fl := match r with
  | .ok o S => kG2 (mi σ S) get me op st o σ
  | .exc c S => .ok (.rs c σ) S
  | .bad => .bad
theorem kG1_ok (o : V) (S : Sto) (mi : St → Sto → R V) (get : V → V → Sto → R V) (me : St → Sto → R V) (op : V → V → Sto → R V) (st : V → V → V → Sto → R Unit) (σ : St) : kG1 (.ok o S) mi get me op st σ = kG2 (mi σ S) get me op st o σ := rfl
theorem kG1_exc (c : String) (S : Sto) (mi : St → Sto → R V) (get : V → V → Sto → R V) (me : St → Sto → R V) (op : V → V → Sto → R V) (st : V → V → V → Sto → R Unit) (σ : St) : kG1 (.exc c S) mi get me op st σ = .ok (.rs c σ) S := rfl
def kPar (r : R (List V)) (i : Nat) (j : Nat) (σ : St) : R Fl := match r with
  | .ok vs S => match vs with | [v, w] => .ok (.nx ((σ.set i (some v)).set j (some w))) S | _ => .bad
  | .exc c S => .ok (.rs c σ) S
  | .bad => .bad
theorem kPar_ok0 (v w : V) (S : Sto) (i : Nat) (j : Nat) (σ : St) : kPar (.ok [v, w] S) i j σ = .ok (.nx ((σ.set i (some v)).set j (some w))) S := rfl
theorem kPar_exc (c : String) (S : Sto) (i : Nat) (j : Nat) (σ : St) : kPar (.exc c S) i j σ = .ok (.rs c σ) S := rfl
def kFor (r : R AI) (g : Itm → St → Sto → R St) (ws : List Nat) (body : St → Sto → R Fl) (σ : St) : R Fl := match r with
  | .ok a S => forM a.2 g ws body a.1 (wipe σ ws) S
  | .exc c S => .ok (.rs c σ) S
  | .bad => .bad
theorem kFor_ok0 (items : List Itm) (chk : Sto → Bool) (S : Sto) (g : Itm → St → Sto → R St) (ws : List Nat) (body : St → Sto → R Fl) (σ : St) : kFor (.ok (items, chk) S) g ws body σ = forM chk g ws body items (wipe σ ws) S := rfl
theorem kFor_exc (c : String) (S : Sto) (g : Itm → St → Sto → R St) (ws : List Nat) (body : St → Sto → R Fl) (σ : St) : kFor (.exc c S) g ws body σ = .ok (.rs c σ) S := rfl
def kSb3 (r : R Unit) (σ : St) : R St := match r with
  | .ok u S => .ok σ S
  | .exc c S => .exc c S
  | .bad => .bad
theorem kSb3_ok (u : Unit) (S : Sto) (σ : St) : kSb3 (.ok u S) σ = .ok σ S := rfl
theorem kSb3_exc (c : String) (S : Sto) (σ : St) : kSb3 (.exc c S) σ = .exc c S := rfl
def kSb2 (r : R V) (m : V → V → V → Sto → R Unit) (o : V) (v : V) (σ : St) : R St := match r with
  | .ok i S => kSb3 (m o i v S) σ
  | .exc c S => .exc c S
  | .bad => .bad
theorem kSb2_ok (i : V) (S : Sto) (m : V → V → V → Sto → R Unit) (o : V) (v : V) (σ : St) : kSb2 (.ok i S) m o v σ = kSb3 (m o i v S) σ := rfl
theorem kSb2_exc (c : String) (S : Sto) (m : V → V → V → Sto → R Unit) (o : V) (v : V) (σ : St) : kSb2 (.exc c S) m o v σ = .exc c S := rfl
def kSb1 (r : R V) (mi : St → Sto → R V) (m : V → V → V → Sto → R Unit) (v : V) (σ : St) : R St := match r with
  | .ok o S => kSb2 (mi σ S) m o v σ
  | .exc c S => .exc c S
  | .bad => .bad
theorem kSb1_ok (o : V) (S : Sto) (mi : St → Sto → R V) (m : V → V → V → Sto → R Unit) (v : V) (σ : St) : kSb1 (.ok o S) mi m v σ = kSb2 (mi σ S) m o v σ := rfl
theorem kSb1_exc (c : String) (S : Sto) (mi : St → Sto → R V) (m : V → V → V → Sto → R Unit) (v : V) (σ : St) : kSb1 (.exc c S) mi m v σ = .exc c S := rfl
def kAg0 (o : Option (Option V)) (m : V → V → Sto → R V) (me : St → Sto → R V) (i : Nat) (σ : St) (S : Sto) : R Fl := match o with
  | some (some x) => kAg1 (me σ S) m x i σ
  | _ => .bad
theorem kAg0_ok (x : V) (m : V → V → Sto → R V) (me : St → Sto → R V) (i : Nat) (σ : St) (S : Sto) : kAg0 (some (some x)) m me i σ S = kAg1 (me σ S) m x i σ := rfl
theorem kCl_1 (x0 : V) (S : Sto) (m : List V → Sto → R V) : kCl (.ok [x0] S) 1 m = m [x0] S := rfl
theorem kLst_1 (x0 : V) (S : Sto) : kLst (.ok [x0] S) = .ok (.ref S.length) (S ++ [.lst [x0]]) := by simp [kLst]
theorem kTup_1 (x0 : V) (S : Sto) : kTup (.ok [x0] S) = .ok (.ref S.length) (S ++ [.tup [x0]]) := by simp [kTup]
theorem kCl_2 (x0 x1 : V) (S : Sto) (m : List V → Sto → R V) : kCl (.ok [x0, x1] S) 2 m = m [x0, x1] S := rfl
theorem kLst_2 (x0 x1 : V) (S : Sto) : kLst (.ok [x0, x1] S) = .ok (.ref S.length) (S ++ [.lst [x0, x1]]) := by simp [kLst]
theorem kTup_2 (x0 x1 : V) (S : Sto) : kTup (.ok [x0, x1] S) = .ok (.ref S.length) (S ++ [.tup [x0, x1]]) := by simp [kTup]
theorem kCl_3 (x0 x1 x2 : V) (S : Sto) (m : List V → Sto → R V) : kCl (.ok [x0, x1, x2] S) 3 m = m [x0, x1, x2] S := rfl
theorem kLst_3 (x0 x1 x2 : V) (S : Sto) : kLst (.ok [x0, x1, x2] S) = .ok (.ref S.length) (S ++ [.lst [x0, x1, x2]]) := by simp [kLst]
theorem kTup_3 (x0 x1 x2 : V) (S : Sto) : kTup (.ok [x0, x1, x2] S) = .ok (.ref S.length) (S ++ [.tup [x0, x1, x2]]) := by simp [kTup]
theorem kCl_4 (x0 x1 x2 x3 : V) (S : Sto) (m : List V → Sto → R V) : kCl (.ok [x0, x1, x2, x3] S) 4 m = m [x0, x1, x2, x3] S := rfl
theorem kLst_4 (x0 x1 x2 x3 : V) (S : Sto) : kLst (.ok [x0, x1, x2, x3] S) = .ok (.ref S.length) (S ++ [.lst [x0, x1, x2, x3]]) := by simp [kLst]
theorem kTup_4 (x0 x1 x2 x3 : V) (S : Sto) : kTup (.ok [x0, x1, x2, x3] S) = .ok (.ref S.length) (S ++ [.tup [x0, x1, x2, x3]]) := by simp [kTup]
theorem kCl_5 (x0 x1 x2 x3 x4 : V) (S : Sto) (m : List V → Sto → R V) : kCl (.ok [x0, x1, x2, x3, x4] S) 5 m = m [x0, x1, x2, x3, x4] S := rfl
theorem kLst_5 (x0 x1 x2 x3 x4 : V) (S : Sto) : kLst (.ok [x0, x1, x2, x3, x4] S) = .ok (.ref S.length) (S ++ [.lst [x0, x1, x2, x3, x4]]) := by simp [kLst]
theorem kTup_5 (x0 x1 x2 x3 x4 : V) (S : Sto) : kTup (.ok [x0, x1, x2, x3, x4] S) = .ok (.ref S.length) (S ++ [.tup [x0, x1, x2, x3, x4]]) := by simp [kTup]
theorem kCl_6 (x0 x1 x2 x3 x4 x5 : V) (S : Sto) (m : List V → Sto → R V) : kCl (.ok [x0, x1, x2, x3, x4, x5] S) 6 m = m [x0, x1, x2, x3, x4, x5] S := rfl
theorem kLst_6 (x0 x1 x2 x3 x4 x5 : V) (S : Sto) : kLst (.ok [x0, x1, x2, x3, x4, x5] S) = .ok (.ref S.length) (S ++ [.lst [x0, x1, x2, x3, x4, x5]]) := by simp [kLst]
theorem kTup_6 (x0 x1 x2 x3 x4 x5 : V) (S : Sto) : kTup (.ok [x0, x1, x2, x3, x4, x5] S) = .ok (.ref S.length) (S ++ [.tup [x0, x1, x2, x3, x4, x5]]) := by simp [kTup]
theorem kCl_7 (x0 x1 x2 x3 x4 x5 x6 : V) (S : Sto) (m : List V → Sto → R V) : kCl (.ok [x0, x1, x2, x3, x4, x5, x6] S) 7 m = m [x0, x1, x2, x3, x4, x5, x6] S := rfl
theorem kLst_7 (x0 x1 x2 x3 x4 x5 x6 : V) (S : Sto) : kLst (.ok [x0, x1, x2, x3, x4, x5, x6] S) = .ok (.ref S.length) (S ++ [.lst [x0, x1, x2, x3, x4, x5, x6]]) := by simp [kLst]
theorem kTup_7 (x0 x1 x2 x3 x4 x5 x6 : V) (S : Sto) : kTup (.ok [x0, x1, x2, x3, x4, x5, x6] S) = .ok (.ref S.length) (S ++ [.tup [x0, x1, x2, x3, x4, x5, x6]]) := by simp [kTup]
theorem kCl_8 (x0 x1 x2 x3 x4 x5 x6 x7 : V) (S : Sto) (m : List V → Sto → R V) : kCl (.ok [x0, x1, x2, x3, x4, x5, x6, x7] S) 8 m = m [x0, x1, x2, x3, x4, x5, x6, x7] S := rfl
theorem kLst_8 (x0 x1 x2 x3 x4 x5 x6 x7 : V) (S : Sto) : kLst (.ok [x0, x1, x2, x3, x4, x5, x6, x7] S) = .ok (.ref S.length) (S ++ [.lst [x0, x1, x2, x3, x4, x5, x6, x7]]) := by simp [kLst]
theorem kTup_8 (x0 x1 x2 x3 x4 x5 x6 x7 : V) (S : Sto) : kTup (.ok [x0, x1, x2, x3, x4, x5, x6, x7] S) = .ok (.ref S.length) (S ++ [.tup [x0, x1, x2, x3, x4, x5, x6, x7]]) := by simp [kTup]
theorem kLst_0 (S : Sto) : kLst (.ok [] S) = .ok (.ref S.length) (S ++ [.lst []]) := by simp [kLst]
section
variable (σ : St) (S : Sto)
theorem eO_eq (m : V → V → Sto → R V) (ma mb : St → Sto → R V) : eO m ma mb σ S = kO1 (ma σ S) m mb σ := by
  unfold eO kO1 kO2 R.bind
  cases ma σ S with
  | ok x S1 =>
    dsimp only
    cases mb σ S1 with
    | ok y S2 =>
      first | rfl | (cases y <;> first | rfl | (rename_i b; cases b <;> rfl))
    | exc c S9 => first | rfl | (repeat (first | rfl | split))
    | bad => first | rfl | (repeat (first | rfl | split))
  | exc c S9 => first | rfl | (repeat (first | rfl | split))
  | bad => first | rfl | (repeat (first | rfl | split))
theorem eU_eq (m : V → Sto → R V) (ma : St → Sto → R V) : eU m ma σ S = kU (ma σ S) m := by
  unfold eU kU R.bind
  cases ma σ S with
  | ok x S1 =>
    first | rfl | (cases x <;> first | rfl | (rename_i b; cases b <;> rfl))
  | exc c S9 => first | rfl | (repeat (first | rfl | split))
  | bad => first | rfl | (repeat (first | rfl | split))
theorem aNil_eq  : aNil σ S = .ok [] S := Eq.trans rfl rfl
theorem aCons_eq (ma : St → Sto → R V) (mr : St → Sto → R (List V)) : aCons ma mr σ S = kC1 (ma σ S) mr σ := by
  unfold aCons kC1 kC2 R.bind
  cases ma σ S with
  | ok x S1 =>
    dsimp only
    cases mr σ S1 with
    | ok xs S2 =>
      first | rfl | (cases xs <;> first | rfl | (rename_i b; cases b <;> rfl))
    | exc c S9 => first | rfl | (repeat (first | rfl | split))
    | bad => first | rfl | (repeat (first | rfl | split))
  | exc c S9 => first | rfl | (repeat (first | rfl | split))
  | bad => first | rfl | (repeat (first | rfl | split))
theorem eLst_eq (mr : St → Sto → R (List V)) : eLst mr σ S = kLst (mr σ S) := by
  unfold eLst kLst R.bind
  cases mr σ S with
  | ok xs S1 =>
    first | rfl | (cases xs <;> first | rfl | (rename_i b; cases b <;> rfl))
  | exc c S9 => first | rfl | (repeat (first | rfl | split))
  | bad => first | rfl | (repeat (first | rfl | split))
theorem eTup_eq (mr : St → Sto → R (List V)) : eTup mr σ S = kTup (mr σ S) := by
  unfold eTup kTup R.bind
  cases mr σ S with
  | ok xs S1 =>
    first | rfl | (cases xs <;> first | rfl | (rename_i b; cases b <;> rfl))
  | exc c S9 => first | rfl | (repeat (first | rfl | split))
  | bad => first | rfl | (repeat (first | rfl | split))
theorem eA_eq (m : List V → Sto → R V) (ma : St → Sto → R (List V)) : eA m ma σ S = kA (ma σ S) m := by
  unfold eA kA R.bind
  cases ma σ S with
  | ok xs S1 =>
    first | rfl | (cases xs <;> first | rfl | (rename_i b; cases b <;> rfl))
  | exc c S9 => first | rfl | (repeat (first | rfl | split))
  | bad => first | rfl | (repeat (first | rfl | split))
theorem eCl_eq (n : Nat) (m : List V → Sto → R V) (ma : St → Sto → R (List V)) : eCl n m ma σ S = kCl (ma σ S) n m := by
  unfold eCl kCl R.bind
  cases ma σ S with
  | ok xs S1 =>
    first | rfl | (cases xs <;> first | rfl | (rename_i b; cases b <;> rfl))
  | exc c S9 => first | rfl | (repeat (first | rfl | split))
  | bad => first | rfl | (repeat (first | rfl | split))
theorem eM0_eq (t : V → Sto → Bool) (m : V → List V → Sto → R V) (mo : St → Sto → R V) : eM0 t m mo σ S = kM0 (mo σ S) t m := by
  unfold eM0 kM0 R.bind
  cases mo σ S with
  | ok x S1 =>
    first | rfl | (cases x <;> first | rfl | (rename_i b; cases b <;> rfl))
  | exc c S9 => first | rfl | (repeat (first | rfl | split))
  | bad => first | rfl | (repeat (first | rfl | split))
theorem eM_eq (t : V → Sto → Bool) (m : V → List V → Sto → R V) (mo : St → Sto → R V) (mr : St → Sto → R (List V)) : eM t m mo mr σ S = kM1 (mo σ S) t m mr σ := by
  unfold eM kM1 kM2 R.bind
  cases mo σ S with
  | ok x S1 => dsimp only; cases mr σ S1 <;> rfl
  | _ => rfl
theorem tV_eq (m : St → Sto → R V) : tV m σ S = kTV (m σ S) := by
  unfold tV kTV R.bind
  cases m σ S with
  | ok v S1 =>
    first | rfl | (cases v <;> first | rfl | (rename_i b; cases b <;> rfl))
  | exc c S9 => first | rfl | (repeat (first | rfl | split))
  | bad => first | rfl | (repeat (first | rfl | split))
theorem tAn_eq (t u : St → Sto → R Bool) : tAn t u σ S = kAn (t σ S) u σ := by
  unfold tAn kAn R.bind
  cases t σ S with
  | ok c S1 =>
    first | rfl | (cases c <;> first | rfl | (rename_i b; cases b <;> rfl))
  | exc c S9 => first | rfl | (repeat (first | rfl | split))
  | bad => first | rfl | (repeat (first | rfl | split))
theorem tO_eq (t u : St → Sto → R Bool) : tO t u σ S = kOr (t σ S) u σ := by
  unfold tO kOr R.bind
  cases t σ S with
  | ok c S1 =>
    first | rfl | (cases c <;> first | rfl | (rename_i b; cases b <;> rfl))
  | exc c S9 => first | rfl | (repeat (first | rfl | split))
  | bad => first | rfl | (repeat (first | rfl | split))
theorem tN_eq (t : St → Sto → R Bool) : tN t σ S = kN (t σ S) := by
  unfold tN kN R.bind
  cases t σ S with
  | ok c S1 =>
    first | rfl | (cases c <;> first | rfl | (rename_i b; cases b <;> rfl))
  | exc c S9 => first | rfl | (repeat (first | rfl | split))
  | bad => first | rfl | (repeat (first | rfl | split))
theorem tYs_eq  : tYs σ S = .ok true S := Eq.trans rfl rfl
theorem eAn_eq (t u : St → Sto → R V) : eAn t u σ S = kEAn (t σ S) u σ := by
  unfold eAn kEAn R.bind
  cases t σ S with
  | ok x S1 =>
    first | rfl | (cases x <;> first | rfl | (rename_i b; cases b <;> rfl))
  | exc c S9 => first | rfl | (repeat (first | rfl | split))
  | bad => first | rfl | (repeat (first | rfl | split))
theorem eOr_eq (t u : St → Sto → R V) : eOr t u σ S = kEOr (t σ S) u σ := by
  unfold eOr kEOr R.bind
  cases t σ S with
  | ok x S1 =>
    first | rfl | (cases x <;> first | rfl | (rename_i b; cases b <;> rfl))
  | exc c S9 => first | rfl | (repeat (first | rfl | split))
  | bad => first | rfl | (repeat (first | rfl | split))
theorem eNo_eq (t : St → Sto → R V) : eNo t σ S = kENo (t σ S) := by
  unfold eNo kENo R.bind
  cases t σ S with
  | ok x S1 =>
    first | rfl | (cases x <;> first | rfl | (rename_i b; cases b <;> rfl))
  | exc c S9 => first | rfl | (repeat (first | rfl | split))
  | bad => first | rfl | (repeat (first | rfl | split))
theorem eIf_eq (t : St → Sto → R Bool) (ma mb : St → Sto → R V) : eIf t ma mb σ S = kIf (t σ S) ma mb σ := by
  unfold eIf kIf R.bind
  cases t σ S with
  | ok c S1 =>
    first | rfl | (cases c <;> first | rfl | (rename_i b; cases b <;> rfl))
  | exc c S9 => first | rfl | (repeat (first | rfl | split))
  | bad => first | rfl | (repeat (first | rfl | split))
theorem eCh_eq (m m' : V → V → Sto → R V) (ma mb mc : St → Sto → R V) : eCh m m' ma mb mc σ S = kCh1 (ma σ S) m m' mb mc σ := by
  unfold eCh kCh1 kCh2 kCh3 kCh4 R.bind
  cases ma σ S with
  | ok x S1 =>
    dsimp only
    cases mb σ S1 with
    | ok y S2 =>
      dsimp only
      cases m x y S2 with
      | ok z S3 =>
        cases z with
        | bl b => cases b with
          | true => dsimp only; cases mc σ S3 <;> rfl
          | false => rfl
        | _ => rfl
      | _ => rfl
    | _ => rfl
  | _ => rfl
theorem eSl_eq (m : St → Sto → R V) (ml mh : Option (St → Sto → R V)) : eSl m ml mh σ S = kSl1 (m σ S) ml mh σ := by
  unfold eSl kSl1 kSl2 kSl3 R.bind
  cases m σ S with
  | ok x S1 =>
    dsimp only
    cases tPt ml σ S1 with
    | ok lo S2 =>
      dsimp only
      cases tPt mh σ S2 with
      | ok hi S3 =>
        first | rfl | (cases hi <;> first | rfl | (rename_i b; cases b <;> rfl))
      | exc c S9 => first | rfl | (repeat (first | rfl | split))
      | bad => first | rfl | (repeat (first | rfl | split))
    | exc c S9 => first | rfl | (repeat (first | rfl | split))
    | bad => first | rfl | (repeat (first | rfl | split))
  | exc c S9 => first | rfl | (repeat (first | rfl | split))
  | bad => first | rfl | (repeat (first | rfl | split))
theorem tPt_none  : tPt none σ S = .ok none S := Eq.trans rfl rfl
theorem tPt_some (m : St → Sto → R V) : tPt (some m) σ S = kPt (m σ S) := by
  unfold tPt kPt R.bind
  dsimp only
  cases m σ S with
  | ok v S1 => cases v <;> rfl
  | _ => rfl
theorem eComp_eq (mi : St → Sto → R AI) (g : Itm → St → Sto → R St) (tt : St → Sto → R Bool) (te : St → Sto → R V) (own : List Nat) : eComp mi g tt te own σ S = kCo1 (mi σ S) g tt te own σ := by
  unfold eComp kCo1 kCo2 R.bind
  cases mi σ S with
  | ok a S1 => dsimp only; cases compM a.2 g tt te a.1 (wipe σ own) S1 <;> rfl
  | _ => rfl
theorem iL_eq (m : St → Sto → R V) : iL m σ S = kIL (m σ S) := by
  unfold iL kIL
  cases m σ S with
  | ok v S1 => simp only [R.bind]; cases rdL v S1 <;> rfl
  | _ => rfl
theorem iR1_eq (m : St → Sto → R (List V)) : iR1 m σ S = kR1 (m σ S) := by
  unfold iR1 kR1
  cases m σ S with
  | ok v S1 => simp only [R.bind]; rfl
  | _ => rfl
theorem iR2_eq (m : St → Sto → R (List V)) : iR2 m σ S = kR2 (m σ S) := by
  unfold iR2 kR2
  cases m σ S with
  | ok v S1 => simp only [R.bind]; rfl
  | _ => rfl
theorem iZ_eq (m : St → Sto → R (List V)) : iZ m σ S = kZ (m σ S) := by
  unfold iZ kZ
  cases m σ S with
  | ok v S1 => simp only [R.bind]; rfl
  | _ => rfl
theorem sNx_eq  : sNx σ S = .ok (.nx σ) S := Eq.trans rfl rfl
theorem sBk_eq  : sBk σ S = .ok (.bk σ) S := Eq.trans rfl rfl
theorem sCt_eq  : sCt σ S = .ok (.ct σ) S := Eq.trans rfl rfl
theorem sRetN_eq  : sRetN σ S = .ok (.rt .non) S := Eq.trans rfl rfl
theorem sRs_eq (c : String) : sRs c σ S = .ok (.rs c σ) S := Eq.trans rfl rfl
theorem sRet_eq (m : St → Sto → R V) : sRet m σ S = kRet (m σ S) σ := by
  unfold sRet kRet sE
  cases m σ S with
  | ok v S1 =>
    first | rfl | (cases v <;> first | rfl | (rename_i b; cases b <;> rfl))
  | exc c S9 => first | rfl | (repeat (first | rfl | split))
  | bad => first | rfl | (repeat (first | rfl | split))
theorem sEx_eq (m : St → Sto → R V) : sEx m σ S = kEx (m σ S) σ := by
  unfold sEx kEx sE
  cases m σ S with
  | ok v S1 =>
    first | rfl | (cases v <;> first | rfl | (rename_i b; cases b <;> rfl))
  | exc c S9 => first | rfl | (repeat (first | rfl | split))
  | bad => first | rfl | (repeat (first | rfl | split))
theorem sIf_eq (t : St → Sto → R Bool) (a b : St → Sto → R Fl) : sIf t a b σ S = kSIf (t σ S) a b σ := by
  unfold sIf kSIf sE
  cases t σ S with
  | ok k S1 =>
    first | rfl | (cases k <;> first | rfl | (rename_i b; cases b <;> rfl))
  | exc c S9 => first | rfl | (repeat (first | rfl | split))
  | bad => first | rfl | (repeat (first | rfl | split))
theorem sSet_eq (i : Nat) (m : St → Sto → R V) : sSet i m σ S = kSet (m σ S) i σ := by
  unfold sSet kSet sE
  cases m σ S with
  | ok v S1 =>
    first | rfl | (cases v <;> first | rfl | (rename_i b; cases b <;> rfl))
  | exc c S9 => first | rfl | (repeat (first | rfl | split))
  | bad => first | rfl | (repeat (first | rfl | split))
theorem sAs_eq (t : V → St → Sto → R St) (m : St → Sto → R V) : sAs t m σ S = kAs1 (m σ S) t σ := by
  unfold sAs kAs1 kAs2 sE
  cases m σ S with
  | ok v S1 =>
    dsimp only
    cases t v σ S1 with
    | ok s2 S2 =>
      first | rfl | (cases s2 <;> first | rfl | (rename_i b; cases b <;> rfl))
    | exc c S9 => first | rfl | (repeat (first | rfl | split))
    | bad => first | rfl | (repeat (first | rfl | split))
  | exc c S9 => first | rfl | (repeat (first | rfl | split))
  | bad => first | rfl | (repeat (first | rfl | split))
theorem sAug_eq (i : Nat) (m : V → V → Sto → R V) (me : St → Sto → R V) : sAug i m me σ S = kAg0 σ[i]? m me i σ S := by
  unfold sAug kAg0
  cases σ[i]? with
  | none => rfl
  | some o =>
    cases o with
    | none => rfl
    | some x =>
      dsimp only
      cases me σ S with
      | ok y S1 => simp only [sE, kAg1]; cases m x y S1 <;> rfl
      | _ => rfl
theorem sAugS_eq (mo mi : St → Sto → R V) (get : V → V → Sto → R V) (me : St → Sto → R V) (op : V → V → Sto → R V) (st : V → V → V → Sto → R Unit) : sAugS mo mi get me op st σ S = kG1 (mo σ S) mi get me op st σ := by
  unfold sAugS kG1 kG2 kG3 kG4 kG5 kG6 sE
  cases mo σ S with
  | ok o S1 =>
    dsimp only
    cases mi σ S1 with
    | ok i S2 =>
      dsimp only
      cases get o i S2 with
      | ok x S3 =>
        dsimp only
        cases me σ S3 with
        | ok y S4 =>
          dsimp only
          cases op x y S4 with
          | ok z S5 => dsimp only; cases st o i z S5 <;> rfl
          | _ => rfl
        | _ => rfl
      | _ => rfl
    | _ => rfl
  | _ => rfl
theorem sPar_eq (i j : Nat) (ma : St → Sto → R (List V)) : sPar i j ma σ S = kPar (ma σ S) i j σ := by
  unfold sPar kPar sE
  cases ma σ S with
  | ok vs S1 =>
    first | rfl | (cases vs <;> first | rfl | (rename_i b; cases b <;> rfl))
  | exc c S9 => first | rfl | (repeat (first | rfl | split))
  | bad => first | rfl | (repeat (first | rfl | split))
theorem sFor_eq (mi : St → Sto → R AI) (g : Itm → St → Sto → R St) (ws : List Nat) (body : St → Sto → R Fl) : sFor mi g ws body σ S = kFor (mi σ S) g ws body σ := by
  unfold sFor kFor sE
  cases mi σ S with
  | ok a S1 =>
    first | rfl | (cases a <;> first | rfl | (rename_i b; cases b <;> rfl))
  | exc c S9 => first | rfl | (repeat (first | rfl | split))
  | bad => first | rfl | (repeat (first | rfl | split))
theorem sWh_eq (t : St → Sto → R Bool) (ws : List Nat) (body : St → Sto → R Fl) : sWh t ws body σ S = whileM t ws body (wipe σ ws) S := Eq.trans rfl rfl
theorem sSq_eq (a b : St → Sto → R Fl) : sSq a b σ S = kSq (a σ S) b := by
  unfold sSq kSq
  cases a σ S with
  | ok f S1 => cases f <;> rfl
  | _ => rfl
theorem gSb_eq (mo mi : St → Sto → R V) (m : V → V → V → Sto → R Unit) (v : V) : gSb mo mi m v σ S = kSb1 (mo σ S) mi m v σ := by
  unfold gSb kSb1 kSb2 kSb3 R.bind
  cases mo σ S with
  | ok o S1 =>
    dsimp only
    cases mi σ S1 with
    | ok i S2 =>
      dsimp only
      cases m o i v S2 with
      | ok u S3 =>
        first | rfl | (cases u <;> first | rfl | (rename_i b; cases b <;> rfl))
      | exc c S9 => first | rfl | (repeat (first | rfl | split))
      | bad => first | rfl | (repeat (first | rfl | split))
    | exc c S9 => first | rfl | (repeat (first | rfl | split))
    | bad => first | rfl | (repeat (first | rfl | split))
  | exc c S9 => first | rfl | (repeat (first | rfl | split))
  | bad => first | rfl | (repeat (first | rfl | split))
theorem gT_eq (is : List Nat) (v : V) : gT is v σ S = kGT (rdT v S) is σ S := by unfold gT kGT; cases rdT v S <;> rfl
theorem eV_eq (i : Nat) : eV i σ S = kV σ[i]? S := by
  unfold eV kV
  cases σ[i]? with
  | none => rfl
  | some o => cases o <;> rfl
theorem eC_eq (v : V) : eC v σ S = .ok v S := Eq.trans rfl rfl
theorem gI1_one (i : Nat) (v : V) : gI1 i (.one v) σ S = .ok (σ.set i (some v)) S := Eq.trans rfl rfl
theorem gIT_many (is : List Nat) (vs : List V) : gIT is (.many vs) σ S = kGT (some vs) is σ S := Eq.trans rfl rfl
theorem gIT_one (is : List Nat) (v : V) : gIT is (.one v) σ S = gT is v σ S := Eq.trans rfl rfl
theorem alloc_eq (o : Ob) : alloc o S = .ok (.ref S.length) (S ++ [o]) := Eq.trans rfl rfl
end
theorem st_set0 (x y : Option V) (xs : List (Option V)) : (x :: xs).set 0 y = y :: xs := rfl
theorem st_setS (x y : Option V) (xs : List (Option V)) (i : Nat) : (x :: xs).set (i + 1) y = x :: xs.set i y := rfl
theorem st_get0 (x : Option V) (xs : List (Option V)) : (x :: xs)[0]? = some x := rfl
theorem st_getS (x : Option V) (xs : List (Option V)) (i : Nat) : (x :: xs)[i + 1]? = xs[i]? := by simp
theorem wipe_nil (σ : St) : wipe σ [] = σ := rfl
theorem wipe_cons (σ : St) (i : Nat) (is : List Nat) : wipe σ (i :: is) = (wipe σ is).set i none := rfl
theorem finF_nx (σ : St) (S : Sto) : finF (.ok (.nx σ) S) = .ok .non S := rfl
theorem finF_rt (v : V) (S : Sto) : finF (.ok (.rt v) S) = .ok v S := rfl
theorem finF_rs (c : String) (σ : St) (S : Sto) : finF (.ok (.rs c σ) S) = .exc c S := rfl
theorem i_T (a b : R V) : (if True then a else b) = a := if_pos trivial
theorem i_F (a b : R V) : (if False then a else b) = b := if_neg id
theorem i_t (a b : R V) : (if true = true then a else b) = a := rfl
theorem i_f (a b : R V) : (if false = true then a else b) = b := rfl
theorem modM_pos {i j : Int} (h : 0 < j) (S : Sto) : modM (.int i) (.int j) S = .ok (.int (i % j)) S := by rw [modM_int, if_pos h]
theorem fdivM_pos {i j : Int} (h : 0 < j ∧ j < 18446744073709551616) (S : Sto) : fdivM (.int i) (.int j) S = .ok (.int (i / j)) S := by rw [fdivM_int, if_pos (divC_small h.1 h.2)]
theorem powM_c {i j : Int} (h : powC i j = true) (S : Sto) : powM (.int i) (.int j) S = .ok (.int (i ^ j.toNat)) S := by rw [powM_int, if_pos h]
theorem mulM_l {i j : Int} (h : -1000000000000000000 ≤ i ∧ i ≤ 1000000000000000000) (S : Sto) : mulM (.int i) (.int j) S = .ok (.int (i * j)) S := by rw [mulM_int, if_pos (mulC_small h)]
theorem mulM_r {i j : Int} (h : -1000000000000000000 ≤ j ∧ j ≤ 1000000000000000000) (S : Sto) : mulM (.int i) (.int j) S = .ok (.int (i * j)) S := by rw [mulM_int, if_pos (mulC_small2 h)]
theorem shlM_c {i j : Int} (h : powC i j = true) (S : Sto) : shlM (.int i) (.int j) S = .ok (.int (i * 2 ^ j.toNat)) S := by
  show (if powC i j = true then _ else _) = _
  rw [if_pos h]
theorem shrM_c {i j : Int} (h : 0 ≤ j) (S : Sto) : shrM (.int i) (.int j) S = .ok (.int (i / 2 ^ j.toNat)) S := by
  show (if decide (0 ≤ j) = true then _ else _) = _
  rw [if_pos (decide_eq_true h)]
/-- all of them, for simp only [ev] -/
def evP := And.intro @kIL2_ok ( And.intro @kZ2_ok ( And.intro @kV_ok ( And.intro @kGT1 ( And.intro @kGT2 ( And.intro @kGT3 ( And.intro @kGT4 ( And.intro @kSq_nx ( And.intro @kSq_rt ( And.intro @kSq_bk ( And.intro @kSq_ct ( And.intro @kSq_rs ( And.intro @kO2_ok ( And.intro @kO2_exc ( And.intro @kO1_ok ( And.intro @kO1_exc ( And.intro @kU_ok ( And.intro @kU_exc ( And.intro @kC2_ok ( And.intro @kC2_exc ( And.intro @kC1_ok ( And.intro @kC1_exc ( And.intro @kLst_exc ( And.intro @kTup_exc ( And.intro @kA_ok ( And.intro @kA_exc ( And.intro @kCl_exc ( And.intro @kM0_ok ( And.intro @kM0_exc ( And.intro @kM2_ok ( And.intro @kM2_exc ( And.intro @kM1_ok ( And.intro @kM1_exc ( And.intro @kTV_ok0 ( And.intro @kTV_exc ( And.intro @kAn_ok0 ( And.intro @kAn_ok1 ( And.intro @kAn_exc ( And.intro @kOr_ok0 ( And.intro @kOr_ok1 ( And.intro @kOr_exc ( And.intro @kN_ok ( And.intro @kN_exc ( And.intro @kEAn_ok0 ( And.intro @kEAn_ok1 ( And.intro @kEAn_exc ( And.intro @kEOr_ok0 ( And.intro @kEOr_ok1 ( And.intro @kEOr_exc ( And.intro @kENo_ok0 ( And.intro @kENo_exc ( And.intro @kIf_ok0 ( And.intro @kIf_ok1 ( And.intro @kIf_exc ( And.intro @kCh4_ok ( And.intro @kCh4_exc ( And.intro @kCh3_ok0 ( And.intro @kCh3_ok1 ( And.intro @kCh3_exc ( And.intro @kCh2_ok ( And.intro @kCh2_exc ( And.intro @kCh1_ok ( And.intro @kCh1_exc ( And.intro @kPt_ok0 ( And.intro @kPt_exc ( And.intro @kSl3_ok ( And.intro @kSl3_exc ( And.intro @kSl2_ok ( And.intro @kSl2_exc ( And.intro @kSl1_ok ( And.intro @kSl1_exc ( And.intro @kCo2_ok ( And.intro @kCo2_exc ( And.intro @kCo1_ok0 ( And.intro @kCo1_exc ( And.intro @kIL_ok ( And.intro @kIL_exc ( And.intro @kR1_ok0 ( And.intro @kR1_exc ( And.intro @kR2_ok0 ( And.intro @kR2_exc ( And.intro @kZ_ok0 ( And.intro @kZ_exc ( And.intro @kRet_ok ( And.intro @kRet_exc ( And.intro @kEx_ok ( And.intro @kEx_exc ( And.intro @kSIf_ok0 ( And.intro @kSIf_ok1 ( And.intro @kSIf_exc ( And.intro @kSet_ok ( And.intro @kSet_exc ( And.intro @kAs2_ok ( And.intro @kAs2_exc ( And.intro @kAs1_ok ( And.intro @kAs1_exc ( And.intro @kAg2_ok ( And.intro @kAg2_exc ( And.intro @kAg1_ok ( And.intro @kAg1_exc ( And.intro @kG6_ok ( And.intro @kG6_exc ( And.intro @kG5_ok ( And.intro @kG5_exc ( And.intro @kG4_ok ( And.intro @kG4_exc ( And.intro @kG3_ok ( And.intro @kG3_exc ( And.intro @kG2_ok ( And.intro @kG2_exc ( And.intro @kG1_ok ( And.intro @kG1_exc ( And.intro @kPar_ok0 ( And.intro @kPar_exc ( And.intro @kFor_ok0 ( And.intro @kFor_exc ( And.intro @kSb3_ok ( And.intro @kSb3_exc ( And.intro @kSb2_ok ( And.intro @kSb2_exc ( And.intro @kSb1_ok ( And.intro @kSb1_exc ( And.intro @kAg0_ok ( And.intro @kCl_1 ( And.intro @kLst_1 ( And.intro @kTup_1 ( And.intro @kCl_2 ( And.intro @kLst_2 ( And.intro @kTup_2 ( And.intro @kCl_3 ( And.intro @kLst_3 ( And.intro @kTup_3 ( And.intro @kCl_4 ( And.intro @kLst_4 ( And.intro @kTup_4 ( And.intro @kCl_5 ( And.intro @kLst_5 ( And.intro @kTup_5 ( And.intro @kCl_6 ( And.intro @kLst_6 ( And.intro @kTup_6 ( And.intro @kCl_7 ( And.intro @kLst_7 ( And.intro @kTup_7 ( And.intro @kCl_8 ( And.intro @kLst_8 ( And.intro @kTup_8 ( And.intro @kLst_0 ( And.intro @eO_eq ( And.intro @eU_eq ( And.intro @aNil_eq ( And.intro @aCons_eq ( And.intro @eLst_eq ( And.intro @eTup_eq ( And.intro @eA_eq ( And.intro @eCl_eq ( And.intro @eM0_eq ( And.intro @eM_eq ( And.intro @tV_eq ( And.intro @tAn_eq ( And.intro @tO_eq ( And.intro @tN_eq ( And.intro @tYs_eq ( And.intro @eAn_eq ( And.intro @eOr_eq ( And.intro @eNo_eq ( And.intro @eIf_eq ( And.intro @eCh_eq ( And.intro @eSl_eq ( And.intro @tPt_none ( And.intro @tPt_some ( And.intro @eComp_eq ( And.intro @iL_eq ( And.intro @iR1_eq ( And.intro @iR2_eq ( And.intro @iZ_eq ( And.intro @sNx_eq ( And.intro @sBk_eq ( And.intro @sCt_eq ( And.intro @sRetN_eq ( And.intro @sRs_eq ( And.intro @sRet_eq ( And.intro @sEx_eq ( And.intro @sIf_eq ( And.intro @sSet_eq ( And.intro @sAs_eq ( And.intro @sAug_eq ( And.intro @sAugS_eq ( And.intro @sPar_eq ( And.intro @sFor_eq ( And.intro @sWh_eq ( And.intro @sSq_eq ( And.intro @gSb_eq ( And.intro @gT_eq ( And.intro @eV_eq ( And.intro @eC_eq ( And.intro @gI1_one ( And.intro @gIT_many ( And.intro @gIT_one ( And.intro @alloc_eq ( And.intro @st_set0 ( And.intro @st_setS ( And.intro @st_get0 ( And.intro @st_getS ( And.intro @wipe_nil ( And.intro @wipe_cons ( And.intro @finF_nx ( And.intro @finF_rt ( And.intro @finF_rs ( And.intro @i_T ( And.intro @i_F ( And.intro @i_t ( And.intro @i_f ( And.intro @addM_int ( And.intro @addM_ref ( And.intro @addM_str ( And.intro @subM_int ( And.intro @mulM_l ( And.intro @mulM_r ( And.intro @mulM_ref ( And.intro @fdivM_pos ( And.intro @modM_pos ( And.intro @powM_c ( And.intro @shlM_c ( And.intro @shrM_c ( And.intro @andM_int ( And.intro @xorM_int ( And.intro @negM_int ( And.intro @ltM_int ( And.intro @leM_int ( And.intro @gtM_int ( And.intro @geM_int ( And.intro @eqM_int ( And.intro @neM_int ( And.intro @ixM_ref ( And.intro @ixM_str ( And.intro @ipAdd_int ( And.intro @ipSub_int ( And.intro @Bool.not_true ( @Bool.not_false)))))))))))))))))))))))))))))))))))))))))))))))))))))))))))))))))))))))))))))))))))))))))))))))))))))))))))))))))))))))))))))))))))))))))))))))))))))))))))))))))))))))))))))))))))))))))))))))))))))))))))))))))))))))))))))))))))))))))))))))
theorem ev : type_of% evP := evP
end Fx
/-! Fx: working with the readings: the store's growth, values at places, loops, comprehensions. -/
namespace Fx
open PySem L2
theorem lim_def : lim = 16777216 := rfl
/-! ### the store grows; what stands at the names in M may change -/
structure Up (M : List Nat) (S S' : Sto) : Prop where
  len : S.length ≤ S'.length
  at' : ∀ (a : Nat) (o : Ob), a ∉ M → S[a]? = some o → S'[a]? = some o
theorem Up.refl (M : List Nat) (S : Sto) : Up M S S := ⟨Nat.le_refl _, fun _ _ _ h => h⟩
theorem Up.trans {M : List Nat} {S S1 S2 : Sto} (a : Up M S S1) (b : Up M S1 S2) : Up M S S2 := ⟨Nat.le_trans a.len b.len, fun x o h e => b.at' x o h (a.at' x o h e)⟩
theorem Up.mono {M M' : List Nat} {S S' : Sto} (h : Up M S S') (hs : ∀ x ∈ M, x ∈ M') : Up M' S S' := ⟨h.len, fun a o n e => h.at' a o (fun m => n (hs a m)) e⟩
theorem Up.any {M : List Nat} {S S' : Sto} (h : Up [] S S') : Up M S S' := h.mono fun _ hx => nomatch hx
theorem Up.app (M : List Nat) (S T : Sto) : Up M S (S ++ T) := ⟨by simp, fun a o _ e => by rw [List.getElem?_append_left (List.getElem?_eq_some_iff.mp e).1]; exact e⟩
theorem Up.get {S S' : Sto} (h : Up [] S S') {a : Nat} {o : Ob} (e : S[a]? = some o) : S'[a]? = some o := h.at' a o (fun h => nomatch h) e
theorem Up.get1 {n : Nat} {S S' : Sto} (h : Up [n] S S') {a : Nat} {o : Ob} (e : S[a]? = some o) (hn : a ≠ n) : S'[a]? = some o := h.at' a o (by simpa using hn) e
theorem slt {S : Sto} {a : Nat} {o : Ob} (e : S[a]? = some o) : a < S.length := (List.getElem?_eq_some_iff.mp e).1
theorem snew (S : Sto) (o : Ob) : (S ++ [o])[S.length]? = some o := by simp
/-- a name that is new since S -/
theorem Up.setNew {M : List Nat} {S S' : Sto} (h : Up M S S') {n : Nat} (hn : S.length ≤ n) (o : Ob) : Up M S (S'.set n o) :=
  ⟨by simpa using h.len, fun a u ha e => by
    have := slt e
    rw [List.getElem?_set_ne (by omega)]; exact h.at' a u ha e⟩
theorem Up.set {M : List Nat} {S : Sto} {n : Nat} (hn : n ∈ M) (o : Ob) : Up M S (S.set n o) :=
  ⟨by simp, fun a u ha e => by
    rw [List.getElem?_set_ne (fun z => ha (by rw [← z]; exact hn))]; exact e⟩
theorem sset_same {S : Sto} {n : Nat} {o o' : Ob} (h : S[n]? = some o') : (S.set n o)[n]? = some o := List.getElem?_set_self (slt h)
theorem sset_ne {S : Sto} {n m : Nat} {o : Ob} (h : m ≠ n) : (S.set n o)[m]? = S[m]? := List.getElem?_set_ne (Ne.symm h)
/-! ### lists -/
theorem rdL_lst {S : Sto} {a : Nat} {xs : List V} (h : S[a]? = some (.lst xs)) : rdL (.ref a) S = some xs := by simp [rdL, h]
theorem rdL_frl {S : Sto} {a : Nat} {xs : List V} (h : S[a]? = some (.frl xs)) : rdL (.ref a) S = some xs := by simp [rdL, h]
theorem rdLT_of {S : Sto} {x : V} {xs : List V} (h : rdL x S = some xs) : rdLT x S = some xs := by
  cases x with
  | ref a =>
    unfold rdL at h; unfold rdLT
    cases e : S[a]? with
    | none => simp [e] at h
    | some o => cases o <;> simp_all
  | _ => cases h
theorem rdLT_lst {S : Sto} {a : Nat} {xs : List V} (h : S[a]? = some (.lst xs)) : rdLT (.ref a) S = some xs := rdLT_of (rdL_lst h)
theorem rdLT_tup {S : Sto} {a : Nat} {xs : List V} (h : S[a]? = some (.tup xs)) : rdLT (.ref a) S = some xs := by simp [rdLT, h]
theorem rdT_tup {S : Sto} {a : Nat} {xs : List V} (h : S[a]? = some (.tup xs)) : rdT (.ref a) S = some xs := by simp [rdT, h]
theorem rdL_up {S S' : Sto} (h : Up [] S S') {x : V} {xs : List V} (e : rdL x S = some xs) : rdL x S' = some xs := by
  cases x with
  | ref a =>
    unfold rdL at e ⊢
    cases q : S[a]? with
    | none => simp [q] at e
    | some o => simp only [q] at e; simp only [h.get q]; exact e
  | _ => cases e
theorem rdI_of {S : Sto} {x : V} {ns : List Int} (h : rdL x S = some (ns.map V.int)) : rdI x S = some ns := by simp [rdI, h]
theorem isLs_of {S : Sto} {x : V} {xs : List V} (h : rdL x S = some xs) : isLs x S = true := by simp [isLs, h]
theorem appM_at {S : Sto} {n : Nat} {xs : List V} {y : V} (h : S[n]? = some (.lst xs)) (hl : xs.length < 16777216) : appM (.ref n) [y] S = .ok .non (S.set n (.lst (xs ++ [y]))) := by
  simp only [appM, chL, h, lim, hl, if_true]
theorem clearM_at {S : Sto} {n : Nat} {xs : List V} (h : S[n]? = some (.lst xs)) : clearM (.ref n) [] S = .ok .non (S.set n (.lst [])) := by
  simp only [clearM, chL, h]
theorem reverseM_at {S : Sto} {n : Nat} {xs : List V} (h : S[n]? = some (.lst xs)) : reverseM (.ref n) [] S = .ok .non (S.set n (.lst xs.reverse)) := by
  simp only [reverseM, chL, h]
theorem setL_at {S : Sto} {n : Nat} {xs : List V} {k : Nat} {v : V} (h : S[n]? = some (.lst xs)) (hk : k < xs.length) : setL (.ref n) (.int k) v S = .ok () (S.set n (.lst (xs.set k v))) := by
  simp only [setL, h, ixN, if_pos (show (0 : Int) ≤ k by omega), if_pos (show (k : Int) < xs.length by omega), Int.toNat_natCast]
theorem getL_at {S : Sto} {x : V} {xs : List V} {k : Nat} {v : V} (h : rdL x S = some xs) (hk : xs[k]? = some v) : getL x (.int k) S = .ok v S := by
  simp only [getL, h, atI_nat hk]
theorem ixQ_at {S : Sto} {x : V} {xs : List V} {k : Nat} {v : V} (h : rdLT x S = some xs) (hk : xs[k]? = some v) : ixQ x (.int k) S = .ok v S := by
  simp only [ixQ, h, atI_nat hk]
theorem ixI_at {S : Sto} {x : V} {ns : List Int} {k : Nat} {v : Int} (h : rdLT x S = some (ns.map V.int)) (hk : ns[k]? = some v) : ixQ x (.int k) S = .ok (.int v) S := ixQ_at h (by simp [hk])
/-- by an int that is a place -/
theorem ixQ_int {S : Sto} {x : V} {xs : List V} {i : Int} {v : V} (h : rdLT x S = some xs) (h0 : 0 ≤ i) (hk : xs[i.toNat]? = some v) : ixQ x (.int i) S = .ok v S := by
  have := ixQ_at (k := i.toNat) h hk
  rwa [Int.toNat_of_nonneg h0] at this
theorem lenM_at {S : Sto} {a : Nat} {xs : List V} (h : rdLT (.ref a) S = some xs) : lenM [.ref a] S = .ok (.int xs.length) S := by simp only [lenM, h]
theorem listM_at {S : Sto} {a : Nat} {xs : List V} (h : rdLT (.ref a) S = some xs) : listM [.ref a] S = .ok (.ref S.length) (S ++ [.lst xs]) := by simp only [listM, h, Fx.alloc]
theorem sumM_at {S : Sto} {x : V} {ns : List Int} (h : rdL x S = some (ns.map V.int)) : sumM [x] S = .ok (.int ns.sum) S := by simp only [sumM, rdI_of h]
theorem sortM_at {S : Sto} {x : V} {ns : List Int} (h : rdL x S = some (ns.map V.int)) : sortM [x] S = .ok (.ref S.length) (S ++ [.lst ((upS ns).map V.int)]) := by simp only [sortM, rdI_of h, Fx.alloc]
theorem sortDM_at {S : Sto} {x : V} {ns : List Int} (h : rdL x S = some (ns.map V.int)) : sortDM [x] S = .ok (.ref S.length) (S ++ [.lst ((dnS ns).map V.int)]) := by simp only [sortDM, rdI_of h, Fx.alloc]
theorem isi_list {S : Sto} {a : Nat} {xs : List V} (h : S[a]? = some (.lst xs)) : isiM [.ref a, .ty "list"] S = .ok (.bl true) S := by
  simp only [isiM, tyN, h, show isB "list" "list" = some true from rfl]
theorem isi_int {S : Sto} (n : Int) : isiM [.int n, .ty "int"] S = .ok (.bl true) S := by
  simp only [isiM, tyN, show isB "int" "int" = some true from rfl]
theorem isi_nbool {S : Sto} (n : Int) : isiM [.int n, .ty "bool"] S = .ok (.bl false) S := by
  simp only [isiM, tyN, show isB "int" "bool" = some false from rfl]
theorem cutV_take (xs : List V) (k : Nat) : cutV xs none (some (k : Int)) = xs.take k := by
  unfold cutV
  rw [HT.sIx_none, HT.sIx_nat, List.drop_zero, Nat.sub_zero]
  by_cases h : k ≤ xs.length
  · rw [Nat.min_eq_left h]
  · rw [Nat.min_eq_right (by omega), List.take_length, List.take_of_length_le (by omega)]
theorem cutV_drop (xs : List V) (k : Nat) : cutV xs (some (k : Int)) none = xs.drop k := by
  unfold cutV
  rw [HT.sIx_none, HT.sIx_nat]
  by_cases h : k ≤ xs.length
  · rw [Nat.min_eq_left h, List.take_of_length_le (by simp)]
  · rw [Nat.min_eq_right (by omega), Nat.sub_self, List.take_zero, List.drop_of_length_le (by omega)]
theorem cutV_mid (xs : List V) (i j : Nat) : cutV xs (some (i : Int)) (some (j : Int)) = (xs.drop i).take (j - i) := by
  unfold cutV
  rw [HT.sIx_nat, HT.sIx_nat]
  by_cases h : i ≤ xs.length
  · rw [Nat.min_eq_left h]
    by_cases h2 : j ≤ xs.length
    · rw [Nat.min_eq_left h2]
    · rw [Nat.min_eq_right (by omega), List.take_of_length_le (by simp), List.take_of_length_le (by simp; omega)]
  · rw [Nat.min_eq_right (by omega : xs.length ≤ i), List.drop_of_length_le (Nat.le_refl _), List.drop_of_length_le (by omega)]
    simp
theorem cutM_drop {S : Sto} {x : V} {xs : List V} {k : Int} (k0 : 0 ≤ k) (h : rdL x S = some xs) : cutM x (some k) none S = .ok (.ref S.length) (S ++ [.lst (xs.drop k.toNat)]) := by
  obtain ⟨k, rfl⟩ := Int.eq_ofNat_of_zero_le k0
  rw [Int.toNat_natCast]
  cases x with
  | ref a => simp only [cutM, h, cutV_drop, Fx.alloc]
  | _ => cases h
theorem cutM_mid {S : Sto} {x : V} {xs : List V} {i j : Int} (i0 : 0 ≤ i) (j0 : 0 ≤ j) (h : rdL x S = some xs) : cutM x (some i) (some j) S = .ok (.ref S.length) (S ++ [.lst ((xs.drop i.toNat).take (j.toNat - i.toNat))]) := by
  obtain ⟨i, rfl⟩ := Int.eq_ofNat_of_zero_le i0
  obtain ⟨j, rfl⟩ := Int.eq_ofNat_of_zero_le j0
  rw [Int.toNat_natCast, Int.toNat_natCast]
  cases x with
  | ref a => simp only [cutM, h, cutV_mid, Fx.alloc]
  | _ => cases h
theorem cutM_take {S : Sto} {x : V} {xs : List V} {k : Int} (k0 : 0 ≤ k) (h : rdL x S = some xs) : cutM x none (some k) S = .ok (.ref S.length) (S ++ [.lst (xs.take k.toNat)]) := by
  obtain ⟨k, rfl⟩ := Int.eq_ofNat_of_zero_le k0
  rw [Int.toNat_natCast]
  cases x with
  | ref a => simp only [cutM, h, cutV_take, Fx.alloc]
  | _ => cases h
/-! ### == of lists of ints -/
theorem toD_ints {S : Sto} : ∀ (ns : List Int) (n : Nat), (ns.map V.int).mapM (toD (n + 1) S) = some (ns.map PyData.int)
  | [], n => rfl
  | x :: ns, n => by
    rw [List.map_cons, List.mapM_cons, toD_ints ns n]; rfl
theorem layA_ints (ns : List Int) : PyData.canLayAll0 (ns.map PyData.int) = true := by
  induction ns with
  | nil => rfl
  | cons n ns ih => rw [List.map_cons, PyData.canLayAll0, ih]; rfl
theorem depA_ints (ns : List Int) : PyData.depthAll (ns.map PyData.int) ≤ 1 := by
  induction ns with
  | nil => simp [PyData.depthAll]
  | cons n ns ih => simp only [List.map_cons, PyData.depthAll, PyData.depth]; omega
theorem shaped_ints (ns : List Int) : SeqAt.shaped (.list (ns.map PyData.int)) = true := by
  unfold SeqAt.shaped
  rw [PyData.canLay0, layA_ints, PyData.depth]
  have := depA_ints ns
  simp; omega
theorem eqv_ints : ∀ xs ys : List Int, PyData.eqvAll (xs.map PyData.int) (ys.map PyData.int) = decide (xs = ys)
  | [], [] => rfl
  | [], _ :: _ => by simp [PyData.eqvAll]
  | _ :: _, [] => by simp [PyData.eqvAll]
  | x :: xs, y :: ys => by
    rw [List.map_cons, List.map_cons, PyData.eqvAll, eqv_ints xs ys, PyData.eqv, Bool.beq_eq_decide_eq]
    by_cases h : x = y <;> simp [h]
theorem toD_isI {S : Sto} {x : V} {ns : List Int} (h : rdL x S = some (ns.map V.int)) (n : Nat) : toD (n + 2) S x = some (.list (ns.map PyData.int)) := by
  cases x with
  | ref a =>
    unfold rdL at h
    cases q : S[a]? with
    | none => simp [q] at h
    | some o =>
      cases o with
      | lst xs => simp only [q, Option.some.injEq] at h; subst h; rw [toD]; simp only [q]; rw [toD_ints]; rfl
      | frl xs => simp only [q, Option.some.injEq] at h; subst h; rw [toD]; simp only [q]; rw [toD_ints]; rfl
      | _ => simp [q] at h
  | _ => cases h
theorem eqB_ints {S : Sto} {x y : V} {xs ys : List Int} (h : rdL x S = some (xs.map V.int)) (h' : rdL y S = some (ys.map V.int)) : eqB x y S = some (decide (xs = ys)) := by
  unfold eqB
  rw [toD_isI h, toD_isI h']
  simp only [shaped_ints, and_self, if_true, PyData.eqv, eqv_ints]
theorem eqM_ints {S : Sto} {x y : V} {xs ys : List Int} (h : rdL x S = some (xs.map V.int)) (h' : rdL y S = some (ys.map V.int)) : eqM x y S = .ok (.bl (decide (xs = ys))) S := by
  unfold eqM; rw [eqB_ints h h']
theorem neM_ints {S : Sto} {x y : V} {xs ys : List Int} (h : rdL x S = some (xs.map V.int)) (h' : rdL y S = some (ys.map V.int)) : neM x y S = .ok (.bl (!decide (xs = ys))) S := by
  unfold neM; rw [eqB_ints h h']
/-! ### checks of what is walked -/
theorem chkL_of {S : Sto} {v : V} {xs : List V} (h : rdL v S = some xs) : chkL v xs S = true := by simp [chkL, h]
theorem chkL_up {S0 : Sto} {v : V} {xs : List V} (h : rdL v S0 = some xs) : ∀ S, Up [] S0 S → chkL v xs S = true := fun S hS => chkL_of (rdL_up hS h)
theorem chkZ_of {S : Sto} {v w : V} {xs ys : List V} (h : rdL v S = some xs) (h' : rdL w S = some ys) : chkZ v w xs ys S = true := by simp [chkZ, h, h']
theorem chkZ_up {S0 : Sto} {v w : V} {xs ys : List V} (h : rdL v S0 = some xs) (h' : rdL w S0 = some ys) : ∀ S, Up [] S0 S → chkZ v w xs ys S = true := fun S hS => chkZ_of (rdL_up hS h) (rdL_up hS h')
theorem chkY_up {M : List Nat} {S0 : Sto} : ∀ S, Up M S0 S → chkY S = true := fun _ _ => rfl
abbrev oneI (n : Int) : Itm := .one (.int n)
abbrev oneR (lo : Int) (i : Nat) : Itm := .one (.int (lo + i))
theorem items_int (ns : List Int) : (ns.map V.int).map Itm.one = ns.map oneI := by rw [List.map_map]; rfl
theorem items_rng (lo : Int) (n : Nat) : rngI lo n = (List.range n).map (oneR lo) := rfl
theorem rng_at {n i x : Nat} (h : (List.range n)[i]? = some x) : i < n ∧ i = x := by
  rw [List.getElem?_eq_some_iff] at h
  obtain ⟨h1, h2⟩ := h
  simp at h1 h2
  exact ⟨h1, h2⟩
theorem getI_D {xs : List Int} {i : Nat} (h : i < xs.length) : (xs.map V.int)[i]? = some (.int (xs.getD i 0)) := by
  rw [List.getElem?_map, List.getD_eq_getElem?_getD, List.getElem?_eq_getElem h]; rfl
theorem items_zip (xs ys : List Int) : zipI (xs.map V.int) (ys.map V.int) = (xs.zip ys).map fun p => .many [.int p.1, .int p.2] := by
  unfold zipI
  rw [List.zip_map, List.map_map]; rfl
/-! ### what an outcome is wanted to be -/
def Re {α : Type} (r : R α) (Q : α → Sto → Prop) : Prop := match r with
  | .ok a S => Q a S
  | _ => False
theorem Re_ok {α : Type} (a : α) (S : Sto) (Q : α → Sto → Prop) : Re (.ok a S) Q = Q a S := rfl
theorem Re.ex {α : Type} {r : R α} {Q : α → Sto → Prop} (h : Re r Q) : ∃ a S, r = .ok a S ∧ Q a S := by
  cases r with
  | ok a S => exact ⟨a, S, rfl, h⟩
  | exc c S => exact h.elim
  | bad => exact h.elim
theorem Re.of {α : Type} {r : R α} {Q : α → Sto → Prop} {a : α} {S : Sto} (e : r = .ok a S) (h : Q a S) : Re r Q := by rw [e]; exact h
/-- a turn that goes on -/
def Tn (r : R Fl) (Q : St → Sto → Prop) : Prop := match r with
  | .ok (.nx σ) S => Q σ S
  | .ok (.ct σ) S => Q σ S
  | _ => False
theorem Tn_nx (σ : St) (S : Sto) (Q : St → Sto → Prop) : Tn (.ok (.nx σ) S) Q = Q σ S := rfl
theorem Tn_ct (σ : St) (S : Sto) (Q : St → Sto → Prop) : Tn (.ok (.ct σ) S) Q = Q σ S := rfl
theorem Tn.ex {r : R Fl} {Q : St → Sto → Prop} (h : Tn r Q) : ∃ σ S, (r = .ok (.nx σ) S ∨ r = .ok (.ct σ) S) ∧ Q σ S := by
  cases r with
  | ok f S =>
    cases f with
    | nx σ => exact ⟨σ, S, .inl rfl, h⟩
    | ct σ => exact ⟨σ, S, .inr rfl, h⟩
    | _ => exact h.elim
  | exc c S => exact h.elim
  | bad => exact h.elim
/-! ### comprehensions -/
/-- with a test, nothing new in the store -/
theorem compM_flt {α : Type} {chk : Sto → Bool} {tg : Itm → St → Sto → R St} {tt : St → Sto → R Bool} {te : St → Sto → R V} {σ : St} {S : Sto} (g : α → Itm) (p : α → Bool) (f : α → V) (hc : chk S = true) : ∀ {xs : List α}, (∀ x ∈ xs, ∃ σ1, tg (g x) σ S = .ok σ1 S ∧ tt σ1 S = .ok (p x) S ∧ (p x = true → te σ1 S = .ok (f x) S)) →
    compM chk tg tt te (xs.map g) σ S = .ok ((xs.filter p).map f) S
  | [], _ => by simp [compM, hc]
  | it :: items, h => by
    obtain ⟨σ1, h1, h2, h3⟩ := h it List.mem_cons_self
    have ih := compM_flt g p f hc (xs := items) fun x hx => h x (List.mem_cons_of_mem _ hx)
    rw [List.map_cons, compM, if_pos hc, h1]
    simp only [R.nox_ok, R.bind_ok, h2]
    cases hp : p it with
    | true =>
      simp only [h3 hp, R.nox_ok, R.bind_ok, ih, if_true]
      rw [List.filter_cons, if_pos hp, List.map_cons]
    | false =>
      simp only [ih, Bool.false_eq_true, if_false]
      rw [List.filter_cons, if_neg (by simp [hp])]
/-- without a test: values that may lean on the store -/
theorem compM_map {α : Type} {M : List Nat} {S0 : Sto} {chk : Sto → Bool} {tg : Itm → St → Sto → R St} {te : St → Sto → R V} {σ : St} (g : α → Itm) (P : Sto → α → V → Prop) (mono : ∀ S S' it v, Up M S S' → P S it v → P S' it v) (hc : ∀ S, Up M S0 S → chk S = true) :
    ∀ {xs : List α}, (∀ x ∈ xs, ∀ S, Up M S0 S → ∃ σ1, tg (g x) σ S = .ok σ1 S ∧ Re (te σ1 S) fun v S' => Up M S S' ∧ P S' x v) →
    ∀ S, Up M S0 S → ∃ vs S', compM chk tg tYs te (xs.map g) σ S = .ok vs S' ∧ Up M S S' ∧ Paired (P S') xs vs
  | [], _, S, h0 => ⟨[], S, by simp [compM, hc S h0], Up.refl M S, .nil⟩
  | it :: items, h, S, h0 => by
    obtain ⟨σ1, h1, h2⟩ := h it List.mem_cons_self S h0
    obtain ⟨v, S1, h3, h4, h5⟩ := h2.ex
    obtain ⟨vs, S2, e, p, q⟩ := compM_map g P mono hc (xs := items) (fun x hx => h x (List.mem_cons_of_mem _ hx)) S1 (h0.trans h4)
    refine ⟨v :: vs, S2, ?_, h4.trans p, .cons (mono _ _ _ _ p h5) q⟩
    rw [List.map_cons, compM, if_pos (hc S h0), h1]
    simp only [R.nox_ok, R.bind_ok, tYs_eq, if_true, h3, e]
/-- values that don't lean on the store -/
theorem compM_val {α : Type} {M : List Nat} {S0 : Sto} {chk : Sto → Bool} {tg : Itm → St → Sto → R St} {te : St → Sto → R V} {σ : St} (g : α → Itm) (f : α → V) (hc : ∀ S, Up M S0 S → chk S = true) {xs : List α}
    (h : ∀ x ∈ xs, ∀ S, Up M S0 S → ∃ σ1, tg (g x) σ S = .ok σ1 S ∧ Re (te σ1 S) fun v S' => Up M S S' ∧ v = f x) (S : Sto) (h0 : Up M S0 S) : ∃ S', compM chk tg tYs te (xs.map g) σ S = .ok (xs.map f) S' ∧ Up M S S' := by
  obtain ⟨vs, S', e, p, q⟩ := compM_map g (fun _ it v => v = f it) (fun _ _ _ _ _ h => h) hc (h) S h0
  refine ⟨S', ?_, p⟩
  rw [e]
  congr 1
  clear e h
  induction q with
  | nil => rfl
  | cons r _ ih => rw [List.map_cons, ← r, ih]
/-- .. and the store stays -/
theorem compM_pure {α : Type} {chk : Sto → Bool} {tg : Itm → St → Sto → R St} {te : St → Sto → R V} {σ : St} {S : Sto} (g : α → Itm) (f : α → V) (hc : chk S = true) : ∀ {xs : List α},
    (∀ x ∈ xs, ∃ σ1, tg (g x) σ S = .ok σ1 S ∧ te σ1 S = .ok (f x) S) → compM chk tg tYs te (xs.map g) σ S = .ok (xs.map f) S
  | [], _ => by simp [compM, hc]
  | it :: items, h => by
    obtain ⟨σ1, h1, h3⟩ := h it List.mem_cons_self
    have ih := compM_pure g f hc (xs := items) fun x hx => h x (List.mem_cons_of_mem _ hx)
    rw [List.map_cons, compM, if_pos hc, h1]
    simp only [R.nox_ok, R.bind_ok, tYs_eq, if_true, h3, ih]; rfl
/-! ### loops -/
/-- a loop by its invariant -/
theorem forM_inv {chk : Sto → Bool} {tg : Itm → St → Sto → R St} {ws : List Nat} {body : St → Sto → R Fl} {items : List Itm} (I : Nat → St → Sto → Prop) (hc : ∀ i σ S, I i σ S → chk S = true)
    (hs : ∀ i it σ S, items[i]? = some it → I i σ S → ∃ σ1, tg it σ S = .ok σ1 S ∧ Tn (body σ1 S) fun σ2 S2 => I (i + 1) (wipe σ2 ws) S2) {σ : St} {S : Sto} (h0 : I 0 σ S) :
    ∃ σ' S', forM chk tg ws body items σ S = .ok (.nx σ') S' ∧ I items.length σ' S' := by
  have go : ∀ (k i : Nat) (σ : St) (S : Sto), items.length = i + k → I i σ S → ∃ σ' S', forM chk tg ws body (items.drop i) σ S = .ok (.nx σ') S' ∧ I items.length σ' S' := by
    intro k
    induction k with
    | zero =>
      intro i σ S hk hI
      have : i = items.length := by omega
      subst this
      rw [List.drop_length]
      exact ⟨σ, S, by simp [forM, hc _ _ _ hI], hI⟩
    | succ k ih =>
      intro i σ S hk hI
      have hi : i < items.length := by omega
      rw [List.drop_eq_getElem_cons hi, forM, if_pos (hc _ _ _ hI)]
      obtain ⟨σ1, h1, hT⟩ := hs i items[i] σ S (List.getElem?_eq_getElem hi) hI
      obtain ⟨σ2, S2, h2, h3⟩ := hT.ex
      rw [h1, sE_ok]
      rcases h2 with h2 | h2
      · rw [h2]; exact ih (i + 1) _ _ (by omega) h3
      · rw [h2]; exact ih (i + 1) _ _ (by omega) h3
  have := go items.length 0 σ S (by omega) h0
  rwa [List.drop_zero] at this
/-- a loop whose state is told by what is gone through -/
theorem forM_at {α : Type} {chk : Sto → Bool} {tg : Itm → St → Sto → R St} {ws : List Nat} {body : St → Sto → R Fl} {xs : List α} (g : α → Itm) (st : Nat → St) (I : Nat → Sto → Prop) (hc : ∀ i S, I i S → chk S = true)
    (hs : ∀ i x S, xs[i]? = some x → I i S → ∃ σ1, tg (g x) (st i) S = .ok σ1 S ∧ Tn (body σ1 S) fun σ2 S2 => wipe σ2 ws = st (i + 1) ∧ I (i + 1) S2) {S : Sto} (h0 : I 0 S) :
    ∃ S', forM chk tg ws body (xs.map g) (st 0) S = .ok (.nx (st xs.length)) S' ∧ I xs.length S' := by
  obtain ⟨σ', S', e, h⟩ := forM_inv (chk := chk) (tg := tg) (ws := ws) (body := body) (items := xs.map g) (fun i σ S => σ = st i ∧ I i S) (fun i σ S h => hc i S h.2) (fun i it σ S hi h => by
    obtain ⟨rfl, h⟩ := h
    rw [List.getElem?_map] at hi
    cases hx : xs[i]? with
    | none => rw [hx] at hi; cases hi
    | some x =>
      rw [hx] at hi
      cases hi
      exact hs i x S hx h) ⟨rfl, h0⟩
  rw [List.length_map] at h
  obtain ⟨rfl, h⟩ := h
  exact ⟨S', e, h⟩
/-- a while by its invariant and a number that falls -/
theorem whileM_inv {t : St → Sto → R Bool} {ws : List Nat} {body : St → Sto → R Fl} (I : St → Sto → Prop) (J : St → Sto → Prop) (μ : St → Sto → Nat)
    (hs : ∀ σ S, I σ S → (∃ S1, t σ S = .ok false S1 ∧ J σ S1) ∨ ∃ S1, t σ S = .ok true S1 ∧ Tn (body σ S1) fun σ2 S2 => I (wipe σ2 ws) S2 ∧ μ (wipe σ2 ws) S2 < μ σ S) {σ : St} {S : Sto} (h0 : I σ S) :
    ∃ σ' S', whileM t ws body σ S = .ok (.nx σ') S' ∧ J σ' S' := by
  have go : ∀ (n : Nat) (σ : St) (S : Sto), μ σ S ≤ n → I σ S → ∃ σ' S', whileM t ws body σ S = .ok (.nx σ') S' ∧ J σ' S' := by
    intro n
    induction n with
    | zero =>
      intro σ S hn hI
      rw [whileM_turn]
      rcases hs σ S hI with ⟨S1, h1, h2⟩ | ⟨S1, h1, hT⟩
      · rw [h1]; exact ⟨σ, S1, rfl, h2⟩
      · obtain ⟨σ2, S2, h2, h3, h4⟩ := hT.ex; omega
    | succ n ih =>
      intro σ S hn hI
      rw [whileM_turn]
      rcases hs σ S hI with ⟨S1, h1, h2⟩ | ⟨S1, h1, hT⟩
      · rw [h1]; exact ⟨σ, S1, rfl, h2⟩
      · obtain ⟨σ2, S2, h2, h3, h4⟩ := hT.ex
        rw [h1]
        dsimp only
        rcases h2 with h2 | h2
        · rw [h2]; exact ih _ _ (by omega) h3
        · rw [h2]; exact ih _ _ (by omega) h3
  exact go _ σ S (Nat.le_refl _) h0
end Fx
/-! Fx: tables: a list of lists of ints, by the rows' names. -/
namespace Fx
open PySem L2
abbrev Rws := List (Nat × List Int)
structure Tb (S : Sto) (a : Nat) (P : Rws) : Prop where
  top : S[a]? = some (.lst (P.map fun p => V.ref p.1))
  row : ∀ p ∈ P, S[p.1]? = some (.lst (p.2.map V.int))
def rowsOf (P : Rws) : List (List Int) := P.map Prod.snd
theorem Tb.upM {M : List Nat} {S S' : Sto} {a : Nat} {P : Rws} (t : Tb S a P) (h : Up M S S') (ha : a ∉ M) (hr : ∀ p ∈ P, p.1 ∉ M) : Tb S' a P :=
  ⟨h.at' _ _ ha t.top, fun p hp => h.at' _ _ (hr p hp) (t.row p hp)⟩
theorem Tb.up {S S' : Sto} {a : Nat} {P : Rws} (t : Tb S a P) (h : Up [] S S') : Tb S' a P := t.upM h (fun h => nomatch h) (fun _ _ h => nomatch h)
theorem Tb.rd {S : Sto} {a : Nat} {P : Rws} (t : Tb S a P) : rdL (.ref a) S = some (P.map fun p => V.ref p.1) := rdL_lst t.top
theorem Tb.rdT {S : Sto} {a : Nat} {P : Rws} (t : Tb S a P) : rdLT (.ref a) S = some (P.map fun p => V.ref p.1) := rdLT_lst t.top
theorem Tb.rdr {S : Sto} {a : Nat} {P : Rws} (t : Tb S a P) {p : Nat × List Int} (hp : p ∈ P) : rdL (.ref p.1) S = some (p.2.map V.int) := rdL_lst (t.row p hp)
theorem Tb.rdrT {S : Sto} {a : Nat} {P : Rws} (t : Tb S a P) {p : Nat × List Int} (hp : p ∈ P) : rdLT (.ref p.1) S = some (p.2.map V.int) := rdLT_lst (t.row p hp)
theorem Tb.lt {S : Sto} {a : Nat} {P : Rws} (t : Tb S a P) : a < S.length := slt t.top
theorem Tb.ltr {S : Sto} {a : Nat} {P : Rws} (t : Tb S a P) {p : Nat × List Int} (hp : p ∈ P) : p.1 < S.length := slt (t.row p hp)
theorem Tb.len {S : Sto} {a : Nat} {P : Rws} (t : Tb S a P) : lenM [.ref a] S = .ok (.int P.length) S := by rw [lenM_at t.rdT, List.length_map]
/-- the row at a place -/
theorem Tb.ix {S : Sto} {a : Nat} {P : Rws} (t : Tb S a P) {i : Int} {p : Nat × List Int} (h0 : 0 ≤ i) (hp : P[i.toNat]? = some p) : ixQ (.ref a) (.int i) S = .ok (.ref p.1) S :=
  ixQ_int t.rdT h0 (by rw [List.getElem?_map, hp]; rfl)
theorem Tb.get {S : Sto} {a : Nat} {P : Rws} (t : Tb S a P) {i : Nat} {p : Nat × List Int} (hp : P[i]? = some p) : S[p.1]? = some (.lst (p.2.map V.int)) := t.row p (List.mem_of_getElem? hp)
/-- the cell at a place of a row -/
theorem rix {S : Sto} {r : Nat} {row : List Int} {i : Int} (h : S[r]? = some (.lst (row.map V.int))) (h0 : 0 ≤ i) (h1 : i < row.length) : ixQ (.ref r) (.int i) S = .ok (.int (row.getD i.toNat 0)) S :=
  ixQ_int (rdLT_lst h) h0 (getI_D (by omega))
abbrev oneP (p : Nat × List Int) : Itm := .one (.ref p.1)
theorem items_tb (P : Rws) : (P.map fun p => V.ref p.1).map Itm.one = P.map oneP := by rw [List.map_map]; rfl
theorem items_tbz (P Q : Rws) : zipI (P.map fun p => V.ref p.1) (Q.map fun p => V.ref p.1) = (P.zip Q).map fun p => .many [.ref p.1.1, .ref p.2.1] := by
  unfold zipI
  rw [List.zip_map, List.map_map]; rfl
theorem items_tbi (P : Rws) (xs : List Int) : zipI (P.map fun p => V.ref p.1) (xs.map V.int) = (P.zip xs).map fun p => .many [.ref p.1.1, .int p.2] := by
  unfold zipI
  rw [List.zip_map, List.map_map]; rfl
/-! ### fresh rows -/
structure Fr (n : Nat) (S : Sto) (P : Rws) : Prop where
  row : ∀ p ∈ P, S[p.1]? = some (.lst (p.2.map V.int))
  new : ∀ p ∈ P, n ≤ p.1
  nod : (P.map Prod.fst).Nodup
theorem Fr.nil (n : Nat) (S : Sto) : Fr n S [] := ⟨fun _ h => (nomatch h), fun _ h => (nomatch h), List.nodup_nil⟩
theorem Fr.up {n : Nat} {S S' : Sto} {P : Rws} (f : Fr n S P) (h : Up [] S S') : Fr n S' P := ⟨fun p hp => h.get (f.row p hp), f.new, f.nod⟩
theorem Fr.set {n : Nat} {S : Sto} {P : Rws} (f : Fr n S P) {m : Nat} (hm : m < n) (o : Ob) : Fr n (S.set m o) P :=
  ⟨fun p hp => by rw [sset_ne (by have := f.new p hp; omega)]; exact f.row p hp, f.new, f.nod⟩
theorem Fr.snoc {n : Nat} {S S' : Sto} {P : Rws} (f : Fr n S P) (h : Up [] S S') (hn : n ≤ S.length) {b : Nat} {row : List Int} (hb : S.length ≤ b) (e : S'[b]? = some (.lst (row.map V.int))) : Fr n S' (P ++ [(b, row)]) := by
  refine ⟨fun p hp => ?_, fun p hp => ?_, ?_⟩
  · rcases List.mem_append.mp hp with h' | h'
    · exact h.get (f.row p h')
    · rcases List.mem_singleton.mp h' with rfl; exact e
  · rcases List.mem_append.mp hp with h' | h'
    · exact f.new p h'
    · rcases List.mem_singleton.mp h' with rfl; exact Nat.le_trans hn hb
  · rw [List.map_append, List.nodup_append]
    refine ⟨f.nod, by simp, fun x hx y hy => ?_⟩
    obtain ⟨p, hp, rfl⟩ := List.mem_map.mp hx
    simp only [List.map_cons, List.map_nil, List.mem_singleton] at hy
    subst hy
    have := slt (f.row p hp)
    omega
theorem Fr.ltr {n : Nat} {S : Sto} {P : Rws} (f : Fr n S P) {p : Nat × List Int} (hp : p ∈ P) : p.1 < S.length := slt (f.row p hp)
theorem Fr.tb {n : Nat} {S : Sto} {P : Rws} (f : Fr n S P) {a : Nat} (h : S[a]? = some (.lst (P.map fun p => V.ref p.1))) : Tb S a P := ⟨h, f.row⟩
/-- a comprehension that makes new lists of ints -/
theorem compM_tbl {α : Type} {S0 : Sto} {chk : Sto → Bool} {tg : Itm → St → Sto → R St} {te : St → Sto → R V} {σ : St} (g : α → Itm) (f : α → List Int) (hc : ∀ S, Up [] S0 S → chk S = true) {xs : List α}
    (h : ∀ x ∈ xs, ∀ S, Up [] S0 S → ∃ σ1, tg (g x) σ S = .ok σ1 S ∧ Re (te σ1 S) fun v S' => Up [] S S' ∧ ∃ b : Nat, v = .ref b ∧ S.length ≤ b ∧ S'[b]? = some (.lst ((f x).map V.int))) (S : Sto) (h0 : Up [] S0 S) :
    ∃ (P : Rws) (S' : Sto), compM chk tg tYs te (xs.map g) σ S = .ok (P.map fun p => V.ref p.1) S' ∧ Up [] S S' ∧ rowsOf P = xs.map f ∧ Fr S.length S' P := by
  induction xs generalizing S with
  | nil => exact ⟨[], S, by simp [compM, hc S h0], Up.refl _ S, rfl, Fr.nil _ _⟩
  | cons it items ih =>
    obtain ⟨σ1, h1, h2⟩ := h it List.mem_cons_self S h0
    obtain ⟨v, S1, h3, h4, b, rfl, h5, h6⟩ := h2.ex
    obtain ⟨P, S2, e, p, q, r⟩ := ih (fun x hx => h x (List.mem_cons_of_mem _ hx)) S1 (h0.trans h4)
    refine ⟨(b, f it) :: P, S2, ?_, h4.trans p, ?_, ⟨fun x hx => ?_, fun x hx => ?_, ?_⟩⟩
    · rw [List.map_cons, compM, if_pos (hc S h0), h1]
      simp only [R.nox_ok, R.bind_ok, tYs_eq, if_true, h3, e]
      rfl
    · rw [rowsOf, List.map_cons, List.map_cons, ← q]; rfl
    · rcases List.mem_cons.mp hx with rfl | hx
      · exact p.get h6
      · exact r.row x hx
    · rcases List.mem_cons.mp hx with rfl | hx
      · exact h5
      · exact Nat.le_trans h4.len (r.new x hx)
    · rw [List.map_cons, List.nodup_cons]
      refine ⟨fun hx => ?_, r.nod⟩
      obtain ⟨x, hx, hb⟩ := List.mem_map.mp hx
      have := r.new x hx
      have := slt h6
      simp only at hb
      omega
/-! ### all rows cleared -/
theorem forM_clear {chk : Sto → Bool} {k : Nat} {body : St → Sto → R Fl} {σ : St} {P : Rws} (hb : body = sEx (eM0 isLs clearM (eV k))) (hk : k < σ.length) (hσ : (σ.set k none) = σ) {S : Sto} (hr : ∀ p ∈ P, ∃ xs, S[p.1]? = some (.lst xs)) (hc : ∀ S', Up (P.map Prod.fst) S S' → chk S' = true) :
    ∃ S', forM chk (gI1 k) [k] body (P.map oneP) σ S = .ok (.nx σ) S' ∧ Up (P.map Prod.fst) S S' := by
  obtain ⟨S1, e1, p1, _⟩ := forM_at (chk := chk) (tg := gI1 k) (ws := [k]) (body := body) (xs := P) oneP (fun _ => σ) (fun i S' => Up (P.map Prod.fst) S S' ∧ ∀ p ∈ P, ∃ xs, S'[p.1]? = some (.lst xs)) (fun i S' h => hc S' h.1)
    (fun i x S' hx h => by
      obtain ⟨p, q⟩ := h
      have hxP := List.mem_of_getElem? hx
      obtain ⟨xs, hxs⟩ := q x hxP
      refine ⟨_, gI1_one _ _ _ _, ?_⟩
      have hv : (σ.set k (some (V.ref x.1)))[k]? = some (some (V.ref x.1)) := List.getElem?_set_self hk
      subst hb
      simp only [ev, hv, isLs_of (rdL_lst hxs), clearM_at hxs, Tn_nx]
      refine ⟨?_, p.trans (Up.set (List.mem_map_of_mem hxP) _), fun y hy => ?_⟩
      · rw [List.set_set, hσ]
      · by_cases hyx : y.1 = x.1
        · rw [hyx]; exact ⟨_, sset_same hxs⟩
        · rw [sset_ne hyx]; exact q y hy) (S := S) ⟨Up.refl _ _, hr⟩
  exact ⟨S1, e1, p1⟩
/-! ### == of tables -/
def dRow (row : List Int) : PyData := .list (row.map PyData.int)
theorem toD_row {S : Sto} {r : Nat} {row : List Int} (h : S[r]? = some (.lst (row.map V.int))) (n : Nat) : toD (n + 2) S (.ref r) = some (dRow row) := toD_isI (rdL_lst h) n
theorem toD_rows {S : Sto} (n : Nat) : ∀ {P : Rws}, (∀ p ∈ P, S[p.1]? = some (.lst (p.2.map V.int))) → (P.map fun p => V.ref p.1).mapM (toD (n + 2) S) = some ((rowsOf P).map dRow)
  | [], _ => rfl
  | p :: P, h => by
    rw [List.map_cons, List.mapM_cons, toD_rows n (fun q hq => h q (List.mem_cons_of_mem _ hq)), toD_row (h p List.mem_cons_self)]; rfl
theorem toD_tb {S : Sto} {a : Nat} {P : Rws} (t : Tb S a P) (n : Nat) : toD (n + 3) S (.ref a) = some (.list ((rowsOf P).map dRow)) := by
  rw [toD]
  simp only [t.top]
  rw [toD_rows n t.row]
  rfl
theorem depth_row (row : List Int) : (dRow row).depth ≤ 2 := by
  unfold dRow
  rw [PyData.depth]
  have := depA_ints row
  omega
theorem layA_rows (T : List (List Int)) : PyData.canLayAll0 (T.map dRow) = true := by
  induction T with
  | nil => rfl
  | cons r T ih => rw [List.map_cons, PyData.canLayAll0, ih, dRow, PyData.canLay0, layA_ints]; rfl
theorem depA_rows (T : List (List Int)) : PyData.depthAll (T.map dRow) ≤ 2 := by
  induction T with
  | nil => simp [PyData.depthAll]
  | cons r T ih => have := depth_row r; simp only [List.map_cons, PyData.depthAll]; omega
theorem shaped_rows (T : List (List Int)) : SeqAt.shaped (.list (T.map dRow)) = true := by
  unfold SeqAt.shaped
  rw [PyData.canLay0, layA_rows, PyData.depth]
  have := depA_rows T
  simp; omega
theorem eqv_row (x y : List Int) : PyData.eqv (dRow x) (dRow y) = decide (x = y) := by
  unfold dRow; rw [PyData.eqv, eqv_ints]
theorem eqv_rows : ∀ X Y : List (List Int), PyData.eqvAll (X.map dRow) (Y.map dRow) = decide (X = Y)
  | [], [] => rfl
  | [], _ :: _ => by simp [PyData.eqvAll]
  | _ :: _, [] => by simp [PyData.eqvAll]
  | x :: X, y :: Y => by
    rw [List.map_cons, List.map_cons, PyData.eqvAll, eqv_rows X Y, eqv_row]
    by_cases h : x = y <;> simp [h]
theorem eqB_tb {S : Sto} {a b : Nat} {P Q : Rws} (t : Tb S a P) (u : Tb S b Q) : eqB (.ref a) (.ref b) S = some (decide (rowsOf P = rowsOf Q)) := by
  unfold eqB
  rw [toD_tb t, toD_tb u]
  simp only [shaped_rows, and_self, if_true, PyData.eqv, eqv_rows]
theorem eqM_tb {S : Sto} {a b : Nat} {P Q : Rws} (t : Tb S a P) (u : Tb S b Q) : eqM (.ref a) (.ref b) S = .ok (.bl (decide (rowsOf P = rowsOf Q))) S := by
  unfold eqM; rw [eqB_tb t u]
theorem neM_tb {S : Sto} {a b : Nat} {P Q : Rws} (t : Tb S a P) (u : Tb S b Q) : neM (.ref a) (.ref b) S = .ok (.bl (!decide (rowsOf P = rowsOf Q))) S := by
  unfold neM; rw [eqB_tb t u]
theorem gIT2 (i j : Nat) (v w : V) (σ : St) (S : Sto) : gIT [i, j] (.many [v, w]) σ S = .ok ((σ.set i (some v)).set j (some w)) S := rfl
theorem gIT3 (i j k : Nat) (v w u : V) (σ : St) (S : Sto) : gIT [i, j, k] (.many [v, w, u]) σ S = .ok (((σ.set i (some v)).set j (some w)).set k (some u)) S := rfl
/-! ### products of middling numbers -/
theorem log2_mid {i : Int} (h : i.natAbs < 2 ^ 2000) : i.natAbs.log2 < 2000 := by
  by_cases h0 : i.natAbs = 0
  · rw [h0]; decide
  · exact (Nat.log2_lt h0).mpr h
theorem mulM_mid {i j : Int} (hi : i.natAbs < 2 ^ 2000) (hj : j.natAbs < 2 ^ 2000) (S : Sto) : mulM (.int i) (.int j) S = .ok (.int (i * j)) S := by
  rw [mulM_int, if_pos]
  have h1 := log2_mid hi
  have h2 := log2_mid hj
  unfold mulC
  rw [decide_eq_true (show i.natAbs.log2 + j.natAbs.log2 < 1000000 by omega), Bool.or_true]
/-! ### the plain words -/
def wide (T : List (List Int)) : Nat := (T.headD []).length
def turn (T : List (List Int)) : List (List Int) := (List.range (wide T)).map fun k => T.map fun row => row.getD k 0
/-- all cells within B -/
def Bd (B : Int) (T : List (List Int)) : Prop := ∀ r ∈ T, ∀ x ∈ r, -B ≤ x ∧ x ≤ B
theorem mul_bd {x y A B : Int} (h0 : 0 ≤ x) (h1 : x ≤ A) (h2 : 0 ≤ y) (h3 : y ≤ B) : 0 ≤ x * y ∧ x * y ≤ A * B :=
  ⟨Int.mul_nonneg h0 h2, Int.mul_le_mul h1 h3 h2 (by omega)⟩
/-- all rows of one length -/
def Rect (w : Nat) (T : List (List Int)) : Prop := ∀ r ∈ T, r.length = w
theorem rows_len (P : Rws) : (rowsOf P).length = P.length := List.length_map ..
theorem rect_of {w : Nat} {P : Rws} (h : Rect w (rowsOf P)) {p : Nat × List Int} (hp : p ∈ P) : p.2.length = w := h _ (List.mem_map_of_mem hp)
theorem wide_of {w : Nat} {T : List (List Int)} (h : Rect w T) (h0 : T ≠ []) : wide T = w := by
  cases T with
  | nil => exact (h0 rfl).elim
  | cons r T => exact h r List.mem_cons_self
theorem Up.new {M : List Nat} {S S1 S2 : Sto} (h : Up [] S S1) (g : Up M S1 S2) (hM : ∀ m ∈ M, S.length ≤ m) : Up [] S S2 :=
  ⟨Nat.le_trans h.len g.len, fun a o _ e => g.at' a o (fun hm => by have := hM a hm; have := slt e; omega) (h.get e)⟩
theorem Tb.nin {S : Sto} {a : Nat} {P : Rws} (t : Tb S a P) : a ∉ P.map Prod.fst := by
  intro hm
  obtain ⟨p, hp, e⟩ := List.mem_map.mp hm
  have h1 := t.row p hp
  rw [e, t.top] at h1
  injection h1 with h1
  injection h1 with h1
  have : V.ref p.1 ∈ P.map fun p => V.ref p.1 := List.mem_map_of_mem (f := fun p : Nat × List Int => V.ref p.1) hp
  rw [h1] at this
  obtain ⟨x, _, hx⟩ := List.mem_map.mp this
  cases hx
theorem clear_tb {k : Nat} {body : St → Sto → R Fl} {σ : St} {S : Sto} {h : Nat} {H : Rws} (t : Tb S h H) (hb : body = sEx (eM0 isLs clearM (eV k))) (hk : k < σ.length := by (simp only [List.length_cons, List.length_nil]; decide)) (hσ : σ.set k none = σ := by rfl) :
    ∃ S', forM (chkL (.ref h) (H.map fun p => V.ref p.1)) (gI1 k) [k] body (H.map oneP) σ S = .ok (.nx σ) S' ∧ Up (H.map Prod.fst) S S' :=
  forM_clear hb hk hσ (fun p hp => ⟨_, t.row p hp⟩) (fun S' u => chkL_of (rdL_lst (u.at' _ _ t.nin t.top)))
/-- copies of the rows -/
theorem copy_tb {k : Nat} {te : St → Sto → R V} {σ : St} (ht : te = eA listM (aCons (eV k) aNil)) {S : Sto} {a : Nat} {P : Rws} (t : Tb S a P) (hk : k < σ.length := by (simp only [List.length_cons, List.length_nil]; decide)) :
    ∃ (H : Rws) (S' : Sto), compM (chkL (.ref a) (P.map fun p => V.ref p.1)) (gI1 k) tYs te (P.map oneP) σ S = .ok (H.map fun p => V.ref p.1) S' ∧ Up [] S S' ∧ rowsOf H = rowsOf P ∧ Fr S.length S' H := by
  obtain ⟨H, S1, e1, p1, hH, fH⟩ := compM_tbl (S0 := S) (chk := chkL (.ref a) (P.map fun p => V.ref p.1)) (tg := gI1 k) (te := te) (σ := σ) oneP (fun p => p.2) (fun S' p => chkL_of (t.up p).rd) (fun x hx S' p => ⟨_, gI1_one _ _ _ _, by
      have hv : (σ.set k (some (V.ref x.1)))[k]? = some (some (V.ref x.1)) := List.getElem?_set_self hk
      subst ht
      simp only [ev, hv, listM_at ((t.up p).rdrT hx), Re_ok]
      exact ⟨Up.app _ _ _, _, rfl, Nat.le_refl _, snew _ _⟩⟩) S (Up.refl _ _)
  exact ⟨H, S1, e1, p1, hH, fH⟩
end Fx
/-! Fx: equations of the words of F9, FR for simp only [ev, ex9]. -/
namespace Fx
open PySem L2
def kLR1 (r : R V) : R V := match r with
  | .ok x S => match x with
    | .int n => lrM 0 n S
    | _ => .bad
  | .exc c S => .exc c S
  | .bad => .bad
def kLR3 (r : R V) (x : V) : R V := match r with
  | .ok y S => match x, y with
    | .int i, .int j => lrM i j S
    | _, _ => .bad
  | .exc c S => .exc c S
  | .bad => .bad
def kLR2 (r : R V) (m2 : St → Sto → R V) (σ : St) : R V := match r with
  | .ok x S => kLR3 (m2 σ S) x
  | .exc c S => .exc c S
  | .bad => .bad
def kRv2 (o : Option (List V)) (v : V) (S : Sto) : R AI := match o with
  | some xs => .ok (xs.reverse.map .one, chkL v xs) S
  | none => .bad
def kRv (r : R V) : R AI := match r with
  | .ok v S => kRv2 (rdL v S) v S
  | .exc c S => .exc c S
  | .bad => .bad
def kEn2 (o : Option (List V)) (v : V) (S : Sto) : R AI := match o with
  | some xs => .ok (enumI xs, chkL v xs) S
  | none => .bad
def kEn (r : R V) : R AI := match r with
  | .ok v S => kEn2 (rdL v S) v S
  | .exc c S => .exc c S
  | .bad => .bad
def kLRv (r : R V) : R V := match r with
  | .ok x S => revL x S
  | .exc c S => .exc c S
  | .bad => .bad
def kTr (r : R Fl) (cs : List String) (h : String) (suite : St → Sto → R Fl) : R Fl := match r with
  | .ok (.rs c σ1) S1 => if cs.contains c = true then (if subE c h = true then noRs (suite σ1 S1) else .ok (.rs c σ1) S1) else .bad
  | r => r
def kTrA (r : R Fl) (cs : List String) (h : String) (i : Nat) (suite : String → St → St) : R Fl := match r with
  | .ok (.rs c σ1) S1 => if cs.contains c = true ∧ i < σ1.length then (if subE c h = true then .ok (.nx ((suite c (σ1.set i none)).set i none)) S1 else .ok (.rs c σ1) S1) else .bad
  | r => r
section
variable (σ : St) (S : Sto)
theorem eLR1_eq (m : St → Sto → R V) : eLR1 m σ S = kLR1 (m σ S) := by
  unfold eLR1 kLR1 R.bind; cases m σ S <;> rfl
theorem gU_eq (is : List Nat) (v : V) : gU is v σ S = kGT (rdLT v S) is σ S := by
  unfold gU kGT; cases rdLT v S <;> rfl
theorem kLR1_ok (n : Int) : kLR1 (.ok (.int n) S) = lrM 0 n S := rfl
theorem eLR2_eq (m m2 : St → Sto → R V) : eLR2 m m2 σ S = kLR2 (m σ S) m2 σ := by
  unfold eLR2 kLR2 kLR3 R.bind
  cases m σ S with
  | ok x S1 => dsimp only; cases m2 σ S1 <;> rfl
  | _ => rfl
theorem kLR2_ok (x : V) (m2 : St → Sto → R V) : kLR2 (.ok x S) m2 σ = kLR3 (m2 σ S) x := rfl
theorem kLR3_ok (i j : Int) : kLR3 (.ok (.int j) S) (.int i) = lrM i j S := rfl
theorem iRv_eq (m : St → Sto → R V) : iRv m σ S = kRv (m σ S) := by
  unfold iRv kRv kRv2 R.bind
  cases m σ S with
  | ok v S1 => dsimp only; cases rdL v S1 <;> rfl
  | _ => rfl
theorem kRv_ok (v : V) : kRv (.ok v S) = kRv2 (rdL v S) v S := rfl
theorem kRv2_ok (xs : List V) (v : V) : kRv2 (some xs) v S = .ok (xs.reverse.map .one, chkL v xs) S := rfl
theorem iEn_eq (m : St → Sto → R V) : iEn m σ S = kEn (m σ S) := by
  unfold iEn kEn kEn2 R.bind
  cases m σ S with
  | ok v S1 => dsimp only; cases rdL v S1 <;> rfl
  | _ => rfl
theorem kEn_ok (v : V) : kEn (.ok v S) = kEn2 (rdL v S) v S := rfl
theorem kEn2_ok (xs : List V) (v : V) : kEn2 (some xs) v S = .ok (enumI xs, chkL v xs) S := rfl
theorem eLRv_eq (m : St → Sto → R V) : eLRv m σ S = kLRv (m σ S) := by
  unfold eLRv kLRv R.bind; cases m σ S <;> rfl
theorem kLRv_ok (v : V) : kLRv (.ok v S) = revL v S := rfl
theorem sTry_eq (cs : List String) (h : String) (b s : St → Sto → R Fl) : sTry cs h b s σ S = kTr (b σ S) cs h s := by
  unfold sTry kTr; cases b σ S with
  | ok f S1 => cases f <;> rfl
  | _ => rfl
theorem kTr_nx (cs : List String) (h : String) (s : St → Sto → R Fl) : kTr (.ok (.nx σ) S) cs h s = .ok (.nx σ) S := rfl
theorem kTr_rt (v : V) (cs : List String) (h : String) (s : St → Sto → R Fl) : kTr (.ok (.rt v) S) cs h s = .ok (.rt v) S := rfl
theorem kTr_rs (c : String) (cs : List String) (h : String) (s : St → Sto → R Fl) : kTr (.ok (.rs c σ) S) cs h s = if cs.contains c = true then (if subE c h = true then noRs (s σ S) else .ok (.rs c σ) S) else .bad := rfl
theorem noRs_nx : noRs (.ok (.nx σ) S) = .ok (.nx σ) S := rfl
theorem noRs_rt (v : V) : noRs (.ok (.rt v) S) = .ok (.rt v) S := rfl
theorem sTryA_eq (cs : List String) (h : String) (i : Nat) (b : St → Sto → R Fl) (s : String → St → St) : sTryA cs h i b s σ S = kTrA (b σ S) cs h i s := by
  unfold sTryA kTrA; cases b σ S with
  | ok f S1 => cases f <;> rfl
  | _ => rfl
theorem kTrA_nx (cs : List String) (h : String) (i : Nat) (s : String → St → St) : kTrA (.ok (.nx σ) S) cs h i s = .ok (.nx σ) S := rfl
theorem kTrA_rt (v : V) (cs : List String) (h : String) (i : Nat) (s : String → St → St) : kTrA (.ok (.rt v) S) cs h i s = .ok (.rt v) S := rfl
end
def ex9P := And.intro @gU_eq (And.intro @eLR1_eq (And.intro @kLR1_ok (And.intro @eLR2_eq (And.intro @kLR2_ok (And.intro @kLR3_ok (And.intro @iRv_eq (And.intro @kRv_ok (And.intro @kRv2_ok (And.intro @iEn_eq (And.intro @kEn_ok (And.intro @kEn2_ok (And.intro @eLRv_eq (And.intro @kLRv_ok (And.intro @sTry_eq (And.intro @kTr_nx (And.intro @kTr_rt (And.intro @noRs_nx (And.intro @noRs_rt (And.intro @sTryA_eq (And.intro @kTrA_nx (@kTrA_rt)))))))))))))))))))))
theorem ex9 : type_of% ex9P := ex9P
/-- what an error of the class c, taken by its handler h, leaves -/
theorem kTrA_rs {c h : String} {cs : List String} {i : Nat} {s : String → St → St} {σ : St} {S : Sto} (h1 : cs.contains c = true) (h2 : subE c h = true) (h3 : i < σ.length) : kTrA (.ok (.rs c σ) S) cs h i s = .ok (.nx ((s c (σ.set i none)).set i none)) S := by
  show (if _ then (if _ then _ else _) else _) = _
  rw [if_pos ⟨h1, h3⟩, if_pos h2]
theorem kTr_rsY {c h : String} {cs : List String} {s : St → Sto → R Fl} {σ : St} {S : Sto} (h1 : cs.contains c = true) (h2 : subE c h = true) : kTr (.ok (.rs c σ) S) cs h s = noRs (s σ S) := by
  rw [kTr_rs, if_pos h1, if_pos h2]
theorem lrM_at {lo hi : Int} (h : 0 ≤ lo ∧ lo ≤ 1000000 ∧ 0 ≤ hi ∧ hi ≤ 1000000) (S : Sto) : lrM lo hi S = .ok (.ref S.length) (S ++ [.lst (rgV lo hi)]) := by
  unfold lrM rgC; rw [decide_eq_true h, if_pos rfl]; rfl
theorem rgV_0 (n : Nat) : rgV 0 (n : Int) = ((List.range n).map fun (i : Nat) => (i : Int)).map V.int := by
  unfold rgV
  rw [Int.sub_zero, Int.toNat_natCast, List.map_map]
  apply List.map_congr_left
  intro i _
  show V.int (0 + (i : Int)) = V.int (i : Int)
  rw [Int.zero_add]
theorem revL_at {S : Sto} {x : V} {xs : List V} (h : rdL x S = some xs) : revL x S = .ok (.ref S.length) (S ++ [.lst xs.reverse]) := by unfold revL; rw [h]; rfl
theorem allI_ints (ns : List Int) : allI (ns.map V.int) = some ns := by
  induction ns with
  | nil => rfl
  | cons n ns ih => rw [List.map_cons, allI]; first | rw [ih]; rfl | simp [ih]
theorem removeM_at {S : Sto} {n : Nat} {ns : List Int} {k : Int} (h : S[n]? = some (.lst (ns.map V.int))) (hk : k ∈ ns) : removeM (.ref n) [.int k] S = .ok .non (S.set n (.lst ((ns.erase k).map V.int))) := by
  simp only [removeM, chL, h, allI_ints, hk, if_true]
theorem intM_bl (b : Bool) (S : Sto) : intM [.bl b] S = .ok (.int (if b = true then 1 else 0)) S := rfl
theorem intM_int (i : Int) (S : Sto) : intM [.int i] S = .ok (.int i) S := rfl
theorem flatV_int (n : Int) : flatV (.int n) = true := rfl
theorem inV_ints (k : Int) (ns : List Int) : inV (.int k) (ns.map V.int) = decide (k ∈ ns) := by
  unfold inV
  induction ns with
  | nil => rfl
  | cons n ns ih =>
    rw [List.map_cons, List.any_cons, ih]
    show (n == k || decide (k ∈ ns)) = _
    rw [Bool.eq_iff_iff, Bool.or_eq_true, beq_iff_eq, decide_eq_true_eq, decide_eq_true_eq, List.mem_cons]
    exact or_congr_left eq_comm
theorem allFlat_ints (ns : List Int) : (ns.map V.int).all flatV = true := by
  induction ns with
  | nil => rfl
  | cons n ns ih => rw [List.map_cons, List.all_cons, ih]; rfl
theorem inM_ints {S : Sto} {y : V} {ns : List Int} (h : rdLT y S = some (ns.map V.int)) (neg : Bool) (k : Int) : inM neg (.int k) y S = .ok (.bl (if neg = true then !decide (k ∈ ns) else decide (k ∈ ns))) S := by
  unfold inM
  rw [h]
  dsimp only
  rw [if_pos ⟨rfl, allFlat_ints ns⟩, inV_ints]
end Fx
/-! Fx: lists of ints by open places; suites; small facts. -/
namespace Fx
open PySem L2
theorem Up.new' {M : List Nat} {S S1 S2 : Sto} (h : Up [] S S1) (g : Up M S1 S2) (hM : ∀ m ∈ M, S.length ≤ m) : Up [] S S2 := h.new g hM
theorem getL_I {S : Sto} {n : Nat} {ns : List Int} {i : Int} (h : S[n]? = some (.lst (ns.map V.int))) (h0 : 0 ≤ i) (h1 : i < ns.length) : getL (.ref n) (.int i) S = .ok (.int (ns.getD i.toNat 0)) S := by
  have := getL_at (k := i.toNat) (rdL_lst h) (getI_D (by omega))
  rwa [Int.toNat_of_nonneg h0] at this
theorem setL_I {S : Sto} {n : Nat} {ns : List Int} {i v : Int} (h : S[n]? = some (.lst (ns.map V.int))) (h0 : 0 ≤ i) (h1 : i < ns.length) : setL (.ref n) (.int i) (.int v) S = .ok () (S.set n (.lst ((ns.set i.toNat v).map V.int))) := by
  have := setL_at (k := i.toNat) (v := .int v) h (by rw [List.length_map]; omega)
  rwa [Int.toNat_of_nonneg h0, ← List.map_set] at this
/-- the suite that sets 1, then 2 where the class is one of these -/
theorem su1 {c : String} {j : Nat} {ds1 ds2 : List String} {m1 m2 : String → St → St} {σ : St} (h1 : fAny ds1 c = false) (h2 : fAny ds2 c = false) : uSeq (uSet j 1) (uSeq (uIf (fAny ds1) m1) (uSeq (uIf (fAny ds2) m2) uNil)) c σ = σ.set j (some (.int 1)) := by
  simp only [uSeq, uIf, uNil, uSet, h1, h2, Bool.false_eq_true, if_false]
theorem su2 {c : String} {j : Nat} {σ : St} : uSeq (uMul j 3 fYes) uNil c σ = σ.set j (some (.int 3)) := rfl
theorem ftake1 {S : Sto} {a : Nat} {xs : List V} (h : S[a]? = some (.tup xs)) : rdT (.ref a) S = some xs := rdT_tup h
theorem absM_int (i : Int) (S : Sto) : absM [.int i] S = .ok (.int (if i < 0 then -i else i)) S := rfl
theorem catM_at {S : Sto} {a b : Nat} {xs ys : List V} (h1 : S[a]? = some (.lst xs)) (h2 : S[b]? = some (.lst ys)) (hl : xs.length + ys.length ≤ 16777216) : catM (.ref a) (.ref b) S = .ok (.ref S.length) (S ++ [.lst (xs ++ ys)]) := by
  simp only [catM, h1, h2, lim, hl, if_true, alloc]
theorem getD_map_set {ns : List Int} {i j : Nat} {v : Int} : (ns.set i v).getD j 0 = if i = j ∧ j < ns.length then v else ns.getD j 0 := by
  simp only [List.getD_eq_getElem?_getD, List.getElem?_set]
  by_cases h : i = j
  · subst h
    by_cases h2 : i < ns.length
    · simp [h2]
    · simp [h2]
  · simp [h]
end Fx
/-! Fx: searching loops; the last item; sums; heads. -/
namespace Fx
open PySem L2
/-- a loop that goes on as it is, or returns at the first item with p -/
theorem forM_search {α : Type} {chk : Sto → Bool} {tg : Itm → St → Sto → R St} {ws : List Nat} {body : St → Sto → R Fl} (g : α → Itm) (σ : St) (I : Sto → Prop) (p : α → Bool) (v : α → V) (hc : ∀ S, I S → chk S = true) : ∀ {xs : List α},
    (∀ x ∈ xs, ∀ S, I S → ∃ σ1, tg (g x) σ S = .ok σ1 S ∧ (p x = false → Tn (body σ1 S) fun σ2 S2 => wipe σ2 ws = σ ∧ I S2) ∧ (p x = true → ∃ S2, body σ1 S = .ok (.rt (v x)) S2 ∧ I S2)) → ∀ {S : Sto}, I S →
    ∃ S', I S' ∧ forM chk tg ws body (xs.map g) σ S = match xs.find? p with
      | some x => .ok (.rt (v x)) S'
      | none => .ok (.nx σ) S'
  | [], _, S, h0 => ⟨S, h0, by simp [forM, hc S h0]⟩
  | x :: xs, h, S, h0 => by
    obtain ⟨σ1, h1, hf, ht⟩ := h x List.mem_cons_self S h0
    rw [List.map_cons, forM, if_pos (hc S h0), h1, sE_ok, List.find?_cons]
    cases hp : p x with
    | true =>
      obtain ⟨S2, h2, h3⟩ := ht hp
      rw [h2]
      exact ⟨S2, h3, rfl⟩
    | false =>
      obtain ⟨σ2, S2, h2, h3, h4⟩ := (hf hp).ex
      obtain ⟨S', h5, h6⟩ := forM_search g σ I p v hc (xs := xs) (fun y hy => h y (List.mem_cons_of_mem _ hy)) h4
      refine ⟨S', h5, ?_⟩
      rcases h2 with h2 | h2
      · rw [h2]; dsimp only; rw [h3, h6]
      · rw [h2]; dsimp only; rw [h3, h6]
theorem cutV_init (xs : List V) : cutV xs none (some (-1)) = xs.dropLast := by
  unfold cutV
  rw [HT.sIx_none, List.drop_zero, Nat.sub_zero, List.dropLast_eq_take]
  congr 1
  unfold HT.sIx
  dsimp only
  split <;> omega
theorem cutM_init {S : Sto} {x : V} {xs : List V} (h : rdL x S = some xs) : cutM x none (some (-1)) S = .ok (.ref S.length) (S ++ [.lst xs.dropLast]) := by
  cases x with
  | ref a => simp only [cutM, h, cutV_init, Fx.alloc]
  | _ => cases h
theorem atI_last {xs : List V} {v : V} (h : xs[xs.length - 1]? = some v) : atI xs (-1) = some v := by
  have hl : xs.length - 1 < xs.length := (List.getElem?_eq_some_iff.mp h).1
  have e : ixN xs.length (-1) = some (xs.length - 1) := by
    unfold ixN
    rw [if_neg (by omega), if_pos (by omega)]
    congr 1
    omega
  unfold atI; rw [e]; exact h
theorem ixQ_last {S : Sto} {x : V} {xs : List V} {v : V} (h : rdLT x S = some xs) (hk : xs[xs.length - 1]? = some v) : ixQ x (.int (-1)) S = .ok v S := by
  simp only [ixQ, h, atI_last hk]
theorem sum_set : ∀ {ns : List Int} {i : Nat} (v : Int), i < ns.length → (ns.set i v).sum = ns.sum - ns.getD i 0 + v
  | [], i, v, h => by simp at h
  | n :: ns, 0, v, _ => by simp; omega
  | n :: ns, i + 1, v, h => by
    have := sum_set (ns := ns) (i := i) v (by simpa using h)
    simp only [List.set_cons_succ, List.sum_cons, this, List.getD_cons_succ]; omega
theorem sum_perm {a b : List Int} (h : a.Perm b) : a.sum = b.sum := by
  induction h with
  | nil => rfl
  | cons x _ ih => simp only [List.sum_cons, ih]
  | swap x y l => simp only [List.sum_cons]; omega
  | trans _ _ h1 h2 => exact h1.trans h2
/-- the heads of a row -/
def headsL (ns : List Int) : List Int := (List.range ns.length).map fun k => ((dnS ns).take (k + 1)).sum
theorem headsL_len (ns : List Int) : (headsL ns).length = ns.length := by simp [headsL]
theorem dnS_len (ns : List Int) : (dnS ns).length = ns.length := (dnS_perm ns).length_eq
theorem headsL_at {ns : List Int} {k : Nat} (h : k < ns.length) : (headsL ns).getD k 0 = ((dnS ns).take (k + 1)).sum := by
  rw [List.getD_eq_getElem?_getD, headsL, List.getElem?_map, List.getElem?_range h]; rfl
end Fx
/-! Fx: tables that change, dealings, pairs. -/
namespace Fx
open PySem L2
theorem names_set {P : Rws} {i n : Nat} {row row' : List Int} (h : P[i]? = some (n, row)) : (P.set i (n, row')).map Prod.fst = P.map Prod.fst := by
  rw [List.map_set]
  have hi := (List.getElem?_eq_some_iff.mp h)
  obtain ⟨h1, h2⟩ := hi
  have : (n, row').fst = (P.map Prod.fst)[i]'(by simpa using h1) := by simp [h2]
  rw [this, List.set_getElem_self]
theorem refs_of_names (P : Rws) : (P.map fun p => V.ref p.1) = (P.map Prod.fst).map V.ref := by rw [List.map_map]; rfl
theorem rows_set {P : Rws} {i n : Nat} {row' : List Int} : rowsOf (P.set i (n, row')) = (rowsOf P).set i row' := by rw [rowsOf, List.map_set]; rfl
theorem nodup_at {N : List Nat} (nd : N.Nodup) {i j : Nat} {x : Nat} (h1 : N[i]? = some x) (h2 : N[j]? = some x) : i = j := by
  rw [List.getElem?_eq_some_iff] at h1 h2
  obtain ⟨a1, b1⟩ := h1
  obtain ⟨a2, b2⟩ := h2
  exact (List.getElem_inj nd).mp (b1.trans b2.symm)
/-- a row is written -/
theorem Tb.setRow {S : Sto} {a : Nat} {P : Rws} (t : Tb S a P) (nd : (P.map Prod.fst).Nodup) {i n : Nat} {row row' : List Int} (h : P[i]? = some (n, row)) : Tb (S.set n (.lst (row'.map V.int))) a (P.set i (n, row')) := by
  have hm := List.mem_of_getElem? h
  refine ⟨?_, fun p hp => ?_⟩
  · rw [refs_of_names, names_set h, ← refs_of_names, sset_ne]
    · exact t.top
    · intro e
      exact t.nin (by rw [e]; exact List.mem_map_of_mem hm)
  · obtain ⟨k, hk, e⟩ := List.getElem_of_mem hp
    have hkl : k < P.length := by simpa using hk
    rw [List.getElem_set] at e
    by_cases hik : i = k
    · rw [if_pos hik] at e
      rw [← e]
      exact sset_same (t.row _ hm)
    · rw [if_neg hik] at e
      rw [sset_ne, ← e]
      · exact t.row _ (List.getElem_mem hkl)
      · intro e2
        apply hik
        refine nodup_at nd (x := n) (by rw [List.getElem?_map, h]; rfl) ?_
        rw [List.getElem?_map, List.getElem?_eq_getElem hkl, e]; simp [e2]
theorem rect_set {w i : Nat} {T : List (List Int)} {row' : List Int} (h : Rect w T) (hr : row'.length = w) : Rect w (T.set i row') := fun r hm => by
  rcases List.mem_or_eq_of_mem_set hm with h' | h'
  · exact h r h'
  · rw [h']; exact hr
theorem row_of {P : Rws} {i : Nat} (h : i < P.length) : ∃ n, P[i]? = some (n, (rowsOf P).getD i []) := by
  refine ⟨P[i].1, ?_⟩
  rw [List.getElem?_eq_getElem h, List.getD_eq_getElem?_getD, rowsOf, List.getElem?_map, List.getElem?_eq_getElem h]; rfl
theorem range_set {α : Type} {n i : Nat} {f : Nat → α} {v : α} : ((List.range n).map f).set i v = (List.range n).map fun k => if k = i then v else f k := by
  apply List.ext_getElem
  · simp
  · intro k h1 h2
    simp only [List.getElem_set, List.getElem_map, List.getElem_range]
    by_cases h : i = k
    · rw [if_pos h, if_pos h.symm]
    · rw [if_neg h, if_neg (Ne.symm h)]
theorem range_getD {α : Type} {n i : Nat} {f : Nat → α} {d : α} (h : i < n) : ((List.range n).map f).getD i d = f i := by
  rw [List.getD_eq_getElem?_getD, List.getElem?_map, List.getElem?_range h]; rfl
/-- copies of a row's rows are told alike -/
theorem popAtM_I {S : Sto} {n : Nat} {ns : List Int} {k : Int} (h : S[n]? = some (.lst (ns.map V.int))) (h0 : 0 ≤ k) (h1 : k < ns.length) (hl : ns.length ≤ 1000000) : popAtM (.ref n) [.int k] S = .ok (.int (ns.getD k.toNat 0)) (S.set n (.lst ((ns.eraseIdx k.toNat).map V.int))) := by
  have e : ixN (ns.map V.int).length k = some k.toNat := by
    unfold ixN
    rw [List.length_map, if_pos h0, if_pos h1]
  have e2 : (ns.map V.int)[k.toNat]? = some (.int (ns.getD k.toNat 0)) := getI_D (by omega)
  have e3 : (ns.map V.int).eraseIdx k.toNat = (ns.eraseIdx k.toNat).map V.int := by
    rw [List.eraseIdx_eq_take_drop_succ, List.eraseIdx_eq_take_drop_succ, List.map_append, List.map_take, List.map_drop]
  simp only [popAtM, if_pos (show -1000000 ≤ k ∧ k ≤ 1000000 by omega), chL, h, e, e2, e3]
theorem minM_at {S : Sto} {x : V} {ns : List Int} (h : rdL x S = some (ns.map V.int)) (h0 : 0 < ns.length) : minM [x] S = .ok (.int (minL ns)) S := by
  simp only [minM, rdI_of h, h0, if_true]
theorem minL_nonneg {ns : List Int} (h : 0 < ns.length) : 0 ≤ minL ns ↔ ∀ y ∈ ns, 0 ≤ y := by
  obtain ⟨h1, h2⟩ := minL_spec h
  constructor
  · intro h y hy; have := h2 y hy; omega
  · intro h; exact h _ h1
theorem maxM_two (i j : Int) (S : Sto) : maxM [.int i, .int j] S = .ok (.int (if j > i then j else i)) S := rfl
theorem repM_at {S : Sto} {a : Nat} {xs : List V} {k : Nat} (h : S[a]? = some (.lst xs)) (hk : k ≤ 1000) (hl : xs.length ≤ 1000) : repM (.ref a) (.int k) S = .ok (.ref S.length) (S ++ [.lst (List.replicate k xs).flatten]) := by
  simp only [repM, h, if_pos (show -1000 ≤ (k : Int) ∧ (k : Int) ≤ 1000 ∧ xs.length ≤ 1000 by omega), Int.toNat_natCast, alloc]
theorem rep0 (n : Nat) : (List.replicate n [V.int 0]).flatten = (List.replicate n (0 : Int)).map V.int := by
  induction n with
  | zero => rfl
  | succ n ih => rw [List.replicate_succ, List.flatten_cons, ih]; rfl
theorem mulM_rep (a : Nat) (y : V) (S : Sto) : mulM (.ref a) y S = repM (.ref a) y S := rfl
theorem erase_perm {l : List Int} {k : Nat} (h : k < l.length) : (l[k] :: l.eraseIdx k).Perm l := by
  rw [List.eraseIdx_eq_take_drop_succ]
  have : l = l.take k ++ l[k] :: l.drop (k + 1) := by rw [← List.drop_eq_getElem_cons h, List.take_append_drop]
  exact List.Perm.trans List.perm_middle.symm (by rw [← this])
/-! ### pairs of a number and a dealing -/
structure Pr where
  tn : Nat
  w : Int
  dn : Nat
  d : List Int
structure Dl (S : Sto) (a : Nat) (D : List Pr) : Prop where
  top : S[a]? = some (.lst (D.map fun p => V.ref p.tn))
  tup : ∀ p ∈ D, S[p.tn]? = some (.tup [.int p.w, .ref p.dn])
  deal : ∀ p ∈ D, S[p.dn]? = some (.lst (p.d.map V.int))
theorem Dl.up {S S' : Sto} {a : Nat} {D : List Pr} (t : Dl S a D) (h : Up [] S S') : Dl S' a D := ⟨h.get t.top, fun p hp => h.get (t.tup p hp), fun p hp => h.get (t.deal p hp)⟩
abbrev oneD (p : Pr) : Itm := .one (.ref p.tn)
theorem items_dl (D : List Pr) : (D.map fun p => V.ref p.tn).map Itm.one = D.map oneD := by rw [List.map_map]; rfl
/-- a dealing of n places -/
def IsD (n : Nat) (d : List Int) : Prop := d.Perm ((List.range n).map fun (i : Nat) => (i : Int))
theorem IsD.len {n : Nat} {d : List Int} (h : IsD n d) : d.length = n := by rw [h.length_eq]; simp
theorem IsD.rng {n : Nat} {d : List Int} (h : IsD n d) {x : Int} (hx : x ∈ d) : 0 ≤ x ∧ x < n := by
  obtain ⟨i, hi, rfl⟩ := List.mem_map.mp (h.mem_iff.mp hx)
  have := List.mem_range.mp hi
  omega
theorem IsD.at {n : Nat} {d : List Int} (h : IsD n d) {i : Nat} (hi : i < n) : 0 ≤ d.getD i 0 ∧ d.getD i 0 < n := by
  apply h.rng
  rw [List.getD_eq_getElem?_getD, List.getElem?_eq_getElem (by rw [h.len]; exact hi)]
  exact List.getElem_mem _
/-- the table that pairs tell -/
def cellD (D : List Pr) (r c : Nat) : Int := (D.map fun p => if p.d.getD r 0 = (c : Int) then p.w else 0).sum
def tblD (n : Nat) (D : List Pr) : List (List Int) := (List.range n).map fun r => (List.range n).map fun c => cellD D r c
theorem cellD_snoc (D : List Pr) (p : Pr) (r c : Nat) : cellD (D ++ [p]) r c = cellD D r c + if p.d.getD r 0 = (c : Int) then p.w else 0 := by
  unfold cellD; rw [List.map_append, List.sum_append]; simp
theorem tblD_rect (n : Nat) (D : List Pr) : Rect n (tblD n D) := fun r hr => by
  obtain ⟨k, _, rfl⟩ := List.mem_map.mp hr
  simp
/-- within the pair p, the rows below rr done -/
def midD (n : Nat) (D : List Pr) (p : Pr) (rr : Nat) : List (List Int) := (List.range n).map fun r => (List.range n).map fun c => cellD D r c + if r < rr ∧ p.d.getD r 0 = (c : Int) then p.w else 0
theorem midD_0 (n : Nat) (D : List Pr) (p : Pr) : midD n D p 0 = tblD n D := by
  unfold midD tblD
  apply List.map_congr_left; intro r _
  apply List.map_congr_left; intro c _
  rw [if_neg (by omega)]; omega
theorem midD_n (n : Nat) (D : List Pr) (p : Pr) : midD n D p n = tblD n (D ++ [p]) := by
  unfold midD tblD
  apply List.map_congr_left; intro r hr
  apply List.map_congr_left; intro c _
  have := List.mem_range.mp hr
  rw [cellD_snoc]
  by_cases h : p.d.getD r 0 = (c : Int)
  · rw [if_pos ⟨this, h⟩, if_pos h]
  · rw [if_neg (fun z => h z.2), if_neg h]
theorem midD_row {n : Nat} {D : List Pr} {p : Pr} {rr : Nat} (h : rr < n) : (midD n D p rr).getD rr [] = (List.range n).map fun c => cellD D rr c := by
  unfold midD
  rw [range_getD h]
  apply List.map_congr_left; intro c _
  rw [if_neg (by omega)]; omega
theorem midD_step {n : Nat} {D : List Pr} {p : Pr} {rr : Nat} (h : rr < n) (hd : 0 ≤ p.d.getD rr 0 ∧ p.d.getD rr 0 < n) :
    (midD n D p rr).set rr (((List.range n).map fun c => cellD D rr c).set (p.d.getD rr 0).toNat (((List.range n).map fun c => cellD D rr c).getD (p.d.getD rr 0).toNat 0 + p.w)) = midD n D p (rr + 1) := by
  unfold midD
  rw [range_set, range_set, range_getD (by omega)]
  apply List.map_congr_left; intro r hr
  by_cases hrr : r = rr
  · subst hrr
    rw [if_pos rfl]
    apply List.map_congr_left; intro c hc
    by_cases hc2 : c = (p.d.getD r 0).toNat
    · rw [if_pos hc2, if_pos ⟨by omega, by omega⟩, hc2]
    · rw [if_neg hc2, if_neg (fun z => hc2 (by omega))]; omega
  · rw [if_neg hrr]
    apply List.map_congr_left; intro c hc
    by_cases h2 : r < rr ∧ p.d.getD r 0 = (c : Int)
    · rw [if_pos h2, if_pos ⟨by omega, h2.2⟩]
    · rw [if_neg h2, if_neg (fun z => h2 ⟨by omega, z.2⟩)]
theorem zeros_tblD (n : Nat) : (List.range n).map (fun _ => List.replicate n (0 : Int)) = tblD n [] := by
  unfold tblD cellD
  apply List.map_congr_left; intro r _
  apply List.ext_getElem
  · simp
  · intro i h1 h2; simp
/-- one cell of a square table, read and written -/
theorem cell_op {S : Sto} {b n : Nat} {Q : Rws} {i j : Int} (t : Tb S b Q) (nd : (Q.map Prod.fst).Nodup) (hR : Rect n (rowsOf Q)) (hl : Q.length = n) (i0 : 0 ≤ i) (i1 : i < n) (j0 : 0 ≤ j) (j1 : j < n) :
    ∃ (nm : Nat) (c : Int), nm ∈ Q.map Prod.fst ∧ ixQ (.ref b) (.int i) S = .ok (.ref nm) S ∧ ixQ (.ref nm) (.int j) S = .ok (.int c) S ∧ getL (.ref nm) (.int j) S = .ok (.int c) S ∧
      ∀ v : Int, ∃ (S2 : Sto) (Q2 : Rws), setL (.ref nm) (.int j) (.int v) S = .ok () S2 ∧ Up (Q.map Prod.fst) S S2 ∧ Tb S2 b Q2 ∧ Q2.map Prod.fst = Q.map Prod.fst ∧ Rect n (rowsOf Q2) ∧ Q2.length = n := by
  obtain ⟨nm, hnm⟩ := row_of (P := Q) (i := i.toNat) (by omega)
  have hm := List.mem_of_getElem? hnm
  have hrow : S[nm]? = some (.lst (((rowsOf Q).getD i.toNat []).map V.int)) := t.get hnm
  have hrl : ((rowsOf Q).getD i.toNat []).length = n := rect_of hR hm
  refine ⟨nm, _, List.mem_map_of_mem hm, t.ix i0 hnm, rix hrow j0 (by omega), getL_I hrow j0 (by omega), fun v => ?_⟩
  refine ⟨_, Q.set i.toNat (nm, ((rowsOf Q).getD i.toNat []).set j.toNat v), setL_I hrow j0 (by omega), Up.set (List.mem_map_of_mem hm) _, t.setRow nd hnm, names_set hnm, ?_, by rw [List.length_set, hl]⟩
  rw [rows_set]
  exact rect_set hR (by rw [List.length_set, hrl])
/-- the row at a place, a cell of it -/
theorem row_op {S : Sto} {b n : Nat} {Q : Rws} {i : Int} (t : Tb S b Q) (nd : (Q.map Prod.fst).Nodup) (hR : Rect n (rowsOf Q)) (hl : Q.length = n) (i0 : 0 ≤ i) (i1 : i < n) :
    ∃ (nm : Nat), nm ∈ Q.map Prod.fst ∧ ixQ (.ref b) (.int i) S = .ok (.ref nm) S ∧ ∀ (S1 : Sto) (Q1 : Rws), Tb S1 b Q1 → Q1.map Prod.fst = Q.map Prod.fst → Rect n (rowsOf Q1) → ∀ j : Int, 0 ≤ j → j < n → ∃ c : Int, getL (.ref nm) (.int j) S1 = .ok (.int c) S1 ∧
      ∀ v : Int, ∃ (S2 : Sto) (Q2 : Rws), setL (.ref nm) (.int j) (.int v) S1 = .ok () S2 ∧ Up (Q.map Prod.fst) S1 S2 ∧ Tb S2 b Q2 ∧ Q2.map Prod.fst = Q.map Prod.fst ∧ Rect n (rowsOf Q2) := by
  obtain ⟨nm, hnm⟩ := row_of (P := Q) (i := i.toNat) (by omega)
  have hm := List.mem_of_getElem? hnm
  refine ⟨nm, List.mem_map_of_mem hm, t.ix i0 hnm, fun S1 Q1 t1 h1 hR1 j j0 j1 => ?_⟩
  have hl1 : Q1.length = n := by have := congrArg List.length h1; simpa [hl] using this
  obtain ⟨nm', hnm'⟩ := row_of (P := Q1) (i := i.toNat) (by omega)
  have e : nm' = nm := by
    have a1 : (Q1.map Prod.fst)[i.toNat]? = some nm' := by rw [List.getElem?_map, hnm']; rfl
    have a2 : (Q.map Prod.fst)[i.toNat]? = some nm := by rw [List.getElem?_map, hnm]; rfl
    rw [h1, a2] at a1
    exact (Option.some.inj a1).symm
  subst e
  have hm' := List.mem_of_getElem? hnm'
  have hrow : S1[nm']? = some (.lst (((rowsOf Q1).getD i.toNat []).map V.int)) := t1.get hnm'
  have hrl : ((rowsOf Q1).getD i.toNat []).length = n := rect_of hR1 hm'
  refine ⟨_, getL_I hrow j0 (by omega), fun v => ?_⟩
  refine ⟨_, Q1.set i.toNat (nm', ((rowsOf Q1).getD i.toNat []).set j.toNat v), setL_I hrow j0 (by omega), Up.set (List.mem_map_of_mem hm) _, t1.setRow (by rw [h1]; exact nd) hnm', by rw [names_set hnm', h1], ?_⟩
  rw [rows_set]
  exact rect_set hR1 (by rw [List.length_set, hrl])
theorem rect_copy {w : Nat} {A B : List (List Int)} (h : A = B) (r : Rect w B) : Rect w A := h ▸ r
theorem rep1 (v : V) : ∀ n : Nat, (List.replicate n [v]).flatten = List.replicate n v
  | 0 => rfl
  | n + 1 => by rw [List.replicate_succ, List.flatten_cons, rep1 v n, List.replicate_succ]; rfl
end Fx
/-! Fx: pairs compared, copied; what they tell. -/
namespace Fx
open PySem L2
def dPr (q : Int × List Int) : PyData := .tuple [.int q.1, dRow q.2]
def datD (D : List Pr) : List (Int × List Int) := D.map fun p => (p.w, p.d)
theorem toD_prs {S : Sto} (n : Nat) : ∀ {D : List Pr}, (∀ p ∈ D, S[p.tn]? = some (.tup [.int p.w, .ref p.dn])) → (∀ p ∈ D, S[p.dn]? = some (.lst (p.d.map V.int))) → (D.map fun p => V.ref p.tn).mapM (toD (n + 3) S) = some ((datD D).map dPr)
  | [], _, _ => rfl
  | p :: D, h1, h2 => by
    have e : toD (n + 3) S (.ref p.tn) = some (dPr (p.w, p.d)) := by
      rw [toD]
      simp only [h1 p List.mem_cons_self]
      rw [List.mapM_cons, List.mapM_cons, toD_row (h2 p List.mem_cons_self)]; rfl
    rw [List.map_cons, List.mapM_cons, toD_prs n (fun q hq => h1 q (List.mem_cons_of_mem _ hq)) (fun q hq => h2 q (List.mem_cons_of_mem _ hq)), e]; rfl
theorem toD_dl {S : Sto} {a : Nat} {D : List Pr} (t : Dl S a D) (n : Nat) : toD (n + 4) S (.ref a) = some (.list ((datD D).map dPr)) := by
  rw [toD]
  simp only [t.top]
  rw [toD_prs n t.tup t.deal]
  rfl
theorem depth_pr (q : Int × List Int) : (dPr q).depth ≤ 3 := by
  unfold dPr
  rw [PyData.depth]
  have := depth_row q.2
  simp only [PyData.depthAll, PyData.depth]
  omega
theorem layA_prs (T : List (Int × List Int)) : PyData.canLayAll0 (T.map dPr) = true := by
  induction T with
  | nil => rfl
  | cons r T ih => rw [List.map_cons, PyData.canLayAll0, ih, dPr, PyData.canLay0, PyData.canLayAll0, PyData.canLayAll0, dRow, PyData.canLay0, PyData.canLay0, layA_ints]; rfl
theorem depA_prs (T : List (Int × List Int)) : PyData.depthAll (T.map dPr) ≤ 3 := by
  induction T with
  | nil => simp [PyData.depthAll]
  | cons r T ih => have := depth_pr r; simp only [List.map_cons, PyData.depthAll]; omega
theorem shaped_prs (T : List (Int × List Int)) : SeqAt.shaped (.list (T.map dPr)) = true := by
  unfold SeqAt.shaped
  rw [PyData.canLay0, layA_prs, PyData.depth]
  have := depA_prs T
  simp; omega
theorem eqv_pr (x y : Int × List Int) : PyData.eqv (dPr x) (dPr y) = decide (x = y) := by
  obtain ⟨a, b⟩ := x
  obtain ⟨c, d⟩ := y
  unfold dPr
  rw [PyData.eqv, PyData.eqvAll, PyData.eqvAll, PyData.eqvAll, eqv_row, PyData.eqv, Bool.and_true]
  simp only [Prod.mk.injEq]
  by_cases h : a = c <;> by_cases h2 : b = d <;> simp [h, h2]
theorem eqv_prs : ∀ X Y : List (Int × List Int), PyData.eqvAll (X.map dPr) (Y.map dPr) = decide (X = Y)
  | [], [] => rfl
  | [], _ :: _ => by simp [PyData.eqvAll]
  | _ :: _, [] => by simp [PyData.eqvAll]
  | x :: X, y :: Y => by
    rw [List.map_cons, List.map_cons, PyData.eqvAll, eqv_prs X Y, eqv_pr]
    by_cases h : x = y <;> simp [h]
theorem neM_dl {S : Sto} {a b : Nat} {D F : List Pr} (t : Dl S a D) (u : Dl S b F) : neM (.ref a) (.ref b) S = .ok (.bl (!decide (datD D = datD F))) S := by
  unfold neM eqB
  rw [toD_dl t, toD_dl u]
  simp only [shaped_prs, and_self, if_true, PyData.eqv, eqv_prs]
theorem eqM_dl {S : Sto} {a b : Nat} {D F : List Pr} (t : Dl S a D) (u : Dl S b F) : eqM (.ref a) (.ref b) S = .ok (.bl (decide (datD D = datD F))) S := by
  unfold eqM eqB
  rw [toD_dl t, toD_dl u]
  simp only [shaped_prs, and_self, if_true, PyData.eqv, eqv_prs]
theorem cellD_dat {D F : List Pr} (h : datD D = datD F) (r c : Nat) : cellD D r c = cellD F r c := by
  have e : ∀ D : List Pr, cellD D r c = ((datD D).map fun q => if q.2.getD r 0 = (c : Int) then q.1 else 0).sum := fun D => by
    unfold cellD datD; rw [List.map_map]; rfl
  rw [e, e, h]
theorem tblD_dat {D F : List Pr} (h : datD D = datD F) (n : Nat) : tblD n D = tblD n F := by
  unfold tblD
  apply List.map_congr_left; intro r _
  apply List.map_congr_left; intro c _
  exact cellD_dat h r c
theorem tblD_perm {D F : List Pr} (h : D.Perm F) (n : Nat) : tblD n D = tblD n F := by
  unfold tblD
  apply List.map_congr_left; intro r _
  apply List.map_congr_left; intro c _
  exact sum_perm (h.map _)
theorem tblD_thrice (D : List Pr) (n : Nat) : tblD n (D ++ D ++ D) = (tblD n D).map fun row => row.map fun x => 3 * x := by
  unfold tblD
  rw [List.map_map]
  apply List.map_congr_left; intro r _
  simp only [Function.comp]
  rw [List.map_map]
  apply List.map_congr_left; intro c _
  simp only [Function.comp]
  unfold cellD
  rw [List.map_append, List.map_append, List.sum_append, List.sum_append]; omega
/-- a comprehension that makes new pairs -/
theorem compM_dl {α : Type} {S0 : Sto} {chk : Sto → Bool} {tg : Itm → St → Sto → R St} {te : St → Sto → R V} {σ : St} (g : α → Itm) (f : α → Int × List Int) (hc : ∀ S, Up [] S0 S → chk S = true) {xs : List α}
    (h : ∀ x ∈ xs, ∀ S, Up [] S0 S → ∃ σ1, tg (g x) σ S = .ok σ1 S ∧ Re (te σ1 S) fun v S' => Up [] S S' ∧ ∃ tn dn : Nat, v = .ref tn ∧ S.length ≤ tn ∧ S.length ≤ dn ∧ S'[tn]? = some (.tup [.int (f x).1, .ref dn]) ∧ S'[dn]? = some (.lst ((f x).2.map V.int))) (S : Sto) (h0 : Up [] S0 S) :
    ∃ (D : List Pr) (S' : Sto), compM chk tg tYs te (xs.map g) σ S = .ok (D.map fun p => V.ref p.tn) S' ∧ Up [] S S' ∧ datD D = xs.map f ∧ (∀ p ∈ D, S.length ≤ p.tn ∧ S.length ≤ p.dn) ∧ (∀ p ∈ D, S'[p.tn]? = some (.tup [.int p.w, .ref p.dn])) ∧ (∀ p ∈ D, S'[p.dn]? = some (.lst (p.d.map V.int))) := by
  induction xs generalizing S with
  | nil => exact ⟨[], S, by simp [compM, hc S h0], Up.refl _ S, rfl, fun _ h => (nomatch h), fun _ h => (nomatch h), fun _ h => (nomatch h)⟩
  | cons it items ih =>
    obtain ⟨σ1, h1, h2⟩ := h it List.mem_cons_self S h0
    obtain ⟨v, S1, h3, h4, tn, dn, rfl, l1, l2, q1, q2⟩ := h2.ex
    obtain ⟨D, S2, e, p, q, l, t, d⟩ := ih (fun x hx => h x (List.mem_cons_of_mem _ hx)) S1 (h0.trans h4)
    have hlen := h4.len
    refine ⟨⟨tn, (f it).1, dn, (f it).2⟩ :: D, S2, ?_, h4.trans p, ?_, fun x hx => ?_, fun x hx => ?_, fun x hx => ?_⟩
    · rw [List.map_cons, compM, if_pos (hc S h0), h1]
      simp only [R.nox_ok, R.bind_ok, tYs_eq, if_true, h3, e]
      rfl
    · unfold datD at q ⊢; rw [List.map_cons, List.map_cons, q]
    · rcases List.mem_cons.mp hx with rfl | hx
      · exact ⟨l1, l2⟩
      · have := l x hx; omega
    · rcases List.mem_cons.mp hx with rfl | hx
      · exact p.get q1
      · exact t x hx
    · rcases List.mem_cons.mp hx with rfl | hx
      · exact p.get q2
      · exact d x hx
theorem IsD.sorted {n : Nat} {d : List Int} (h : IsD n d) : upS d = (List.range n).map fun (i : Nat) => (i : Int) := by
  refine (upS_unique h.symm ?_).symm
  rw [List.pairwise_map]
  exact List.pairwise_lt_range.imp fun h => by omega
theorem Dl.upM {M : List Nat} {S S' : Sto} {a : Nat} {D : List Pr} (t : Dl S a D) (h : Up M S S') (ha : a ∉ M) (h1 : ∀ p ∈ D, p.tn ∉ M) (h2 : ∀ p ∈ D, p.dn ∉ M) : Dl S' a D := ⟨h.at' _ _ ha t.top, fun p hp => h.at' _ _ (h1 p hp) (t.tup p hp), fun p hp => h.at' _ _ (h2 p hp) (t.deal p hp)⟩
end Fx
/-! Fx: tables that grow. -/
namespace Fx
open PySem L2
theorem rdL_upM {M : List Nat} {S S' : Sto} (h : Up M S S') {c : Nat} {xs : List V} (hc : c ∉ M) (e : rdL (.ref c) S = some xs) : rdL (.ref c) S' = some xs := by
  unfold rdL at e ⊢
  cases q : S[c]? with
  | none => simp [q] at e
  | some o => simp only [q] at e; simp only [h.at' c o hc q]; exact e
/-- a list of names is no list of ints -/
theorem ne_row {S : Sto} {a n : Nat} {P : Rws} {row : List Int} (h : S[a]? = some (.lst (P.map fun p => V.ref p.1))) (h0 : P ≠ []) (h2 : S[n]? = some (.lst (row.map V.int))) : a ≠ n := by
  intro e
  rw [e, h2] at h
  injection h with h
  injection h with h
  obtain ⟨p, P', rfl⟩ := List.exists_cons_of_ne_nil h0
  cases row with
  | nil => simp at h
  | cons x row => simp at h
theorem Tb.snoc {S : Sto} {a n : Nat} {P : Rws} {row : List Int} (t : Tb S a P) (h : S[n]? = some (.lst (row.map V.int))) (hn : n ≠ a) : Tb (S.set a (.lst ((P.map fun p => V.ref p.1) ++ [.ref n]))) a (P ++ [(n, row)]) := by
  refine ⟨by rw [sset_same t.top, List.map_append]; rfl, fun p hp => ?_⟩
  rcases List.mem_append.mp hp with hp | hp
  · rw [sset_ne (fun e => t.nin (by rw [← e]; exact List.mem_map_of_mem hp))]; exact t.row p hp
  · rw [List.mem_singleton.mp hp, sset_ne hn]; exact h
theorem notNM_non (S : Sto) : notNM .non .non S = .ok (.bl false) S := rfl
theorem notNM_ref (a : Nat) (S : Sto) : notNM (.ref a) .non S = .ok (.bl true) S := rfl
theorem isNM_non (S : Sto) : isNM .non .non S = .ok (.bl true) S := rfl
theorem isNM_ref (a : Nat) (S : Sto) : isNM (.ref a) .non S = .ok (.bl false) S := rfl
theorem isNM_int (a : Int) (S : Sto) : isNM (.int a) .non S = .ok (.bl false) S := rfl
end Fx
/-! Fx: tables by cells. -/
namespace Fx
open PySem L2
def setc (T : List (List Int)) (i j : Nat) (v : Int) : List (List Int) := T.set i ((T.getD i []).set j v)
def cl (T : List (List Int)) (i j : Nat) : Int := (T.getD i []).getD j 0
theorem row_len {w : Nat} {T : List (List Int)} (h : Rect w T) {i : Nat} (hi : i < T.length) : (T.getD i []).length = w := by
  rw [List.getD_eq_getElem?_getD, List.getElem?_eq_getElem hi]
  exact h _ (List.getElem_mem _)
theorem setc_len (T : List (List Int)) (i j : Nat) (v : Int) : (setc T i j v).length = T.length := List.length_set ..
theorem setc_rect {w : Nat} {T : List (List Int)} (h : Rect w T) {i : Nat} (hi : i < T.length) (j : Nat) (v : Int) : Rect w (setc T i j v) := rect_set h (by rw [List.length_set, row_len h hi])
theorem cl_setc {w : Nat} {T : List (List Int)} (h : Rect w T) {i j i' j' : Nat} {v : Int} (hi : i < T.length) (hj : j < w) : cl (setc T i j v) i' j' = if i = i' ∧ j = j' then v else cl T i' j' := by
  unfold cl setc
  by_cases h1 : i = i'
  · subst h1
    have e : (T.set i ((T.getD i []).set j v)).getD i [] = (T.getD i []).set j v := by
      rw [List.getD_eq_getElem?_getD, List.getElem?_set_self hi]; rfl
    rw [e, getD_map_set]
    have := row_len h hi
    by_cases h2 : j = j'
    · subst h2; rw [if_pos ⟨rfl, by omega⟩, if_pos ⟨rfl, rfl⟩]
    · rw [if_neg (fun z => h2 z.1), if_neg (fun z => h2 z.2)]
  · have e : (T.set i ((T.getD i []).set j v)).getD i' [] = T.getD i' [] := by
      rw [List.getD_eq_getElem?_getD, List.getElem?_set_ne h1, List.getD_eq_getElem?_getD]
    rw [e, if_neg (fun z => h1 z.1)]
theorem tab_ext {w : Nat} {A B : List (List Int)} (hl : A.length = B.length) (hA : Rect w A) (hB : Rect w B) (h : ∀ i j, i < A.length → j < w → cl A i j = cl B i j) : A = B := by
  apply List.ext_getElem hl
  intro i h1 h2
  have la := hA _ (List.getElem_mem h1)
  have lb := hB _ (List.getElem_mem h2)
  apply List.ext_getElem (by rw [la, lb])
  intro j h3 h4
  have := h i j h1 (by omega)
  unfold cl at this
  simpa only [List.getD_eq_getElem?_getD, List.getElem?_eq_getElem h1, List.getElem?_eq_getElem h2, Option.getD_some, List.getElem?_eq_getElem h3, List.getElem?_eq_getElem h4] using this
/-- a cell by its places: read, written -/
theorem cell_at {S : Sto} {b w : Nat} {Q : Rws} {i j : Int} (t : Tb S b Q) (nd : (Q.map Prod.fst).Nodup) (hR : Rect w (rowsOf Q)) (i0 : 0 ≤ i) (i1 : i < Q.length) (j0 : 0 ≤ j) (j1 : j < w) :
    ∃ nm : Nat, nm ∈ Q.map Prod.fst ∧ ixQ (.ref b) (.int i) S = .ok (.ref nm) S ∧ ixQ (.ref nm) (.int j) S = .ok (.int (cl (rowsOf Q) i.toNat j.toNat)) S ∧ getL (.ref nm) (.int j) S = .ok (.int (cl (rowsOf Q) i.toNat j.toNat)) S ∧
      ∀ v : Int, ∃ (S2 : Sto) (Q2 : Rws), setL (.ref nm) (.int j) (.int v) S = .ok () S2 ∧ Up (Q.map Prod.fst) S S2 ∧ Tb S2 b Q2 ∧ Q2.map Prod.fst = Q.map Prod.fst ∧ rowsOf Q2 = setc (rowsOf Q) i.toNat j.toNat v := by
  obtain ⟨nm, hnm⟩ := row_of (P := Q) (i := i.toNat) (by omega)
  have hm := List.mem_of_getElem? hnm
  have hrow : S[nm]? = some (.lst (((rowsOf Q).getD i.toNat []).map V.int)) := t.get hnm
  have hrl : ((rowsOf Q).getD i.toNat []).length = w := rect_of hR hm
  refine ⟨nm, List.mem_map_of_mem hm, t.ix i0 hnm, rix hrow j0 (by omega), getL_I hrow j0 (by omega), fun v => ?_⟩
  exact ⟨_, Q.set i.toNat (nm, ((rowsOf Q).getD i.toNat []).set j.toNat v), setL_I hrow j0 (by omega), Up.set (List.mem_map_of_mem hm) _, t.setRow nd hnm, names_set hnm, by rw [rows_set]; rfl⟩
/-- only read: any table -/
theorem cell_rd {S : Sto} {b w : Nat} {Q : Rws} {i j : Int} (t : Tb S b Q) (hR : Rect w (rowsOf Q)) (i0 : 0 ≤ i) (i1 : i < Q.length) (j0 : 0 ≤ j) (j1 : j < w) :
    ∃ nm : Nat, ixQ (.ref b) (.int i) S = .ok (.ref nm) S ∧ ∀ (j : Int), 0 ≤ j → j < w → ixQ (.ref nm) (.int j) S = .ok (.int (cl (rowsOf Q) i.toNat j.toNat)) S := by
  obtain ⟨nm, hnm⟩ := row_of (P := Q) (i := i.toNat) (by omega)
  have hm := List.mem_of_getElem? hnm
  have hrow : S[nm]? = some (.lst (((rowsOf Q).getD i.toNat []).map V.int)) := t.get hnm
  have hrl : ((rowsOf Q).getD i.toNat []).length = w := rect_of hR hm
  exact ⟨nm, t.ix i0 hnm, fun j j0 j1 => rix hrow j0 (by omega)⟩
/-- a loop over two items that goes through -/
theorem forM_two {chk : Sto → Bool} {tg : Itm → St → Sto → R St} {ws : List Nat} {body : St → Sto → R Fl} {x y : Itm} {σ σ1 σ2 σ3 σ4 : St} {S S2 S4 : Sto} (c1 : chk S = true) (h1 : tg x σ S = .ok σ1 S) (b1 : body σ1 S = .ok (.nx σ2) S2) (c2 : chk S2 = true) (h2 : tg y (wipe σ2 ws) S2 = .ok σ3 S2)
    (b2 : body σ3 S2 = .ok (.nx σ4) S4) (c4 : chk S4 = true) : forM chk tg ws body [x, y] σ S = .ok (.nx (wipe σ4 ws)) S4 := by
  simp only [forM, c1, c2, c4, h1, h2, b1, b2, if_true, sE_ok]
/-- noughts and ones alone -/
def Ones (T : List (List Int)) : Prop := ∀ r ∈ T, ∀ x ∈ r, x = 0 ∨ x = 1
theorem Ones.cl {T : List (List Int)} (h : Ones T) {i j : Nat} : cl T i j = 0 ∨ cl T i j = 1 := by
  unfold Fx.cl
  by_cases hi : i < T.length
  · by_cases hj : j < (T.getD i []).length
    · have e : (T.getD i []).getD j 0 = (T.getD i [])[j] := by rw [List.getD_eq_getElem?_getD, List.getElem?_eq_getElem hj]; rfl
      rw [e]
      have e2 : T.getD i [] = T[i] := by rw [List.getD_eq_getElem?_getD, List.getElem?_eq_getElem hi]; rfl
      refine h (T.getD i []) ?_ _ (List.getElem_mem _)
      rw [e2]; exact List.getElem_mem _
    · left; rw [List.getD_eq_getElem?_getD, List.getElem?_eq_none (by omega)]; rfl
  · left
    have e : T.getD i [] = [] := by rw [List.getD_eq_getElem?_getD, List.getElem?_eq_none (show T.length ≤ i by omega)]; rfl
    rw [e]; rfl
theorem Ones.setc {T : List (List Int)} (h : Ones T) {i j : Nat} {v : Int} (hv : v = 0 ∨ v = 1) : Ones (setc T i j v) := fun r hr x hx => by
  rcases List.mem_or_eq_of_mem_set hr with h' | h'
  · exact h r h' x hx
  · rw [h'] at hx
    rcases List.mem_or_eq_of_mem_set hx with h2 | h2
    · by_cases hi : i < T.length
      · have e2 : T.getD i [] = T[i] := by rw [List.getD_eq_getElem?_getD, List.getElem?_eq_getElem hi]; rfl
        exact h _ (by rw [e2]; exact List.getElem_mem _) x h2
      · rw [List.getD_eq_getElem?_getD, List.getElem?_eq_none (show T.length ≤ i by omega)] at h2; simp at h2
    · rw [h2]; exact hv
end Fx
/-! Fx: equations of the words of FB; loops that raise at a first item; known things. -/
namespace Fx
open PySem L2
theorem eDnew_eq (σ : St) (S : Sto) : eDnew σ S = .ok (.ref S.length) (S ++ [.dK []]) := rfl
theorem isBM_bl (x : V) (b : Bool) (S : Sto) : isBM x (.bl b) S = .ok (.bl (decide (x = .bl b))) S := rfl
theorem notBM_bl (x : V) (b : Bool) (S : Sto) : notBM x (.bl b) S = .ok (.bl (!decide (x = .bl b))) S := rfl
theorem int_bl (i : Int) (b : Bool) : (V.int i = V.bl b) = False := by simp
theorem kLst_9 (x0 x1 x2 x3 x4 x5 x6 x7 x8 : V) (S : Sto) : kLst (.ok [x0, x1, x2, x3, x4, x5, x6, x7, x8] S) = .ok (.ref S.length) (S ++ [.lst [x0, x1, x2, x3, x4, x5, x6, x7, x8]]) := by simp [kLst]
theorem kLst_10 (x0 x1 x2 x3 x4 x5 x6 x7 x8 x9 : V) (S : Sto) : kLst (.ok [x0, x1, x2, x3, x4, x5, x6, x7, x8, x9] S) = .ok (.ref S.length) (S ++ [.lst [x0, x1, x2, x3, x4, x5, x6, x7, x8, x9]]) := by simp [kLst]
theorem kLst_11 (x0 x1 x2 x3 x4 x5 x6 x7 x8 x9 x10 : V) (S : Sto) : kLst (.ok [x0, x1, x2, x3, x4, x5, x6, x7, x8, x9, x10] S) = .ok (.ref S.length) (S ++ [.lst [x0, x1, x2, x3, x4, x5, x6, x7, x8, x9, x10]]) := by simp [kLst]
theorem kLst_12 (x0 x1 x2 x3 x4 x5 x6 x7 x8 x9 x10 x11 : V) (S : Sto) : kLst (.ok [x0, x1, x2, x3, x4, x5, x6, x7, x8, x9, x10, x11] S) = .ok (.ref S.length) (S ++ [.lst [x0, x1, x2, x3, x4, x5, x6, x7, x8, x9, x10, x11]]) := by simp [kLst]
theorem kTup_0 (S : Sto) : kTup (.ok [] S) = .ok (.ref S.length) (S ++ [.tup []]) := by simp [kTup]
def exAP := And.intro @eDnew_eq (And.intro @isBM_bl (And.intro @notBM_bl (And.intro @int_bl (And.intro @kLst_9 (And.intro @kLst_10 (And.intro @kLst_11 (And.intro @kLst_12 @kTup_0)))))))
theorem exA : type_of% exAP := exAP
theorem forM_upto {α : Type} {chk : Sto → Bool} {tg : Itm → St → Sto → R St} {ws : List Nat} {body : St → Sto → R Fl} (g : α → Itm) (σ : St) {S : Sto} {c : String} (hc : chk S = true) : ∀ {xs : List α} (k : Nat), k < xs.length →
    (∀ i x, xs[i]? = some x → i ≤ k → ∃ σ1, tg (g x) σ S = .ok σ1 S ∧ (i < k → ∃ σ2, body σ1 S = .ok (.nx σ2) S ∧ wipe σ2 ws = σ) ∧ (i = k → ∃ σ2, body σ1 S = .ok (.rs c σ2) S)) →
    ∃ σ2, forM chk tg ws body (xs.map g) σ S = .ok (.rs c σ2) S
  | [], k, hk, _ => by simp at hk
  | x :: xs, k, hk, h => by
    obtain ⟨σ1, h1, hf, ht⟩ := h 0 x rfl (Nat.zero_le _)
    rw [List.map_cons, forM, if_pos hc, h1, sE_ok]
    cases k with
    | zero =>
      obtain ⟨σ2, h2⟩ := ht rfl
      rw [h2]
      exact ⟨σ2, rfl⟩
    | succ k =>
      obtain ⟨σ2, h2, h3⟩ := hf (Nat.succ_pos _)
      rw [h2]
      dsimp only
      rw [h3]
      refine forM_upto g σ hc (xs := xs) k (by simpa using hk) fun i y hy hi => ?_
      obtain ⟨σ3, h4, h5, h6⟩ := h (i + 1) y hy (by omega)
      exact ⟨σ3, h4, fun hlt => h5 (by omega), fun he => h6 (by omega)⟩
/-- a loop that goes on as it is, or raises c at the first item with p -/
theorem forM_raise {α : Type} {chk : Sto → Bool} {tg : Itm → St → Sto → R St} {ws : List Nat} {body : St → Sto → R Fl} (g : α → Itm) (σ : St) {S : Sto} {c : String} (p : α → Bool) (hc : chk S = true) {xs : List α} (hp : ∃ x ∈ xs, p x = true)
    (h : ∀ (i : Nat) x, xs[i]? = some x → (∀ (j : Nat) y, j < i → xs[j]? = some y → p y = false) → ∃ σ1, tg (g x) σ S = .ok σ1 S ∧ (p x = false → ∃ σ2, body σ1 S = .ok (.nx σ2) S ∧ wipe σ2 ws = σ) ∧ (p x = true → ∃ σ2, body σ1 S = .ok (.rs c σ2) S)) :
    ∃ σ2, forM chk tg ws body (xs.map g) σ S = .ok (.rs c σ2) S := by
  have hk : xs.findIdx p < xs.length := List.findIdx_lt_length.mpr hp
  refine forM_upto g σ hc (xs.findIdx p) hk fun i x hx hi => ?_
  have low : ∀ (j : Nat) y, j < xs.findIdx p → xs[j]? = some y → p y = false := fun j y hj hy => by
    obtain ⟨hl, rfl⟩ := List.getElem?_eq_some_iff.mp hy
    have := List.not_of_lt_findIdx hj
    simpa using this
  obtain ⟨σ1, h1, h2, h3⟩ := h i x hx fun j y hj hy => low j y (by omega) hy
  refine ⟨σ1, h1, fun hlt => h2 (low i x hlt hx), fun he => h3 ?_⟩
  subst he
  obtain ⟨hl, rfl⟩ := List.getElem?_eq_some_iff.mp hx
  exact List.findIdx_getElem
/-! ### known things -/
def Kn (S : Sto) (x : V) : Prop := (tyN x S).isSome = true
theorem tyN_up {S S' : Sto} (h : Up [] S S') {x : V} {t : String} (e : tyN x S = some t) : tyN x S' = some t := by
  cases x with
  | ref n =>
    have e : (match S[n]? with
      | some (.lst _) => some "list"
      | some (.tup _) => some "tuple"
      | some (.dK _) => some "dict"
      | some (.dT _) => some "dict"
      | _ => none) = some t := e
    show (match S'[n]? with
      | some (.lst _) => some "list"
      | some (.tup _) => some "tuple"
      | some (.dK _) => some "dict"
      | some (.dT _) => some "dict"
      | _ => none) = some t
    cases ho : S[n]? with
    | none => rw [ho] at e; cases e
    | some o => rw [h.get ho]; rw [ho] at e; exact e
  | _ => exact e
theorem Kn.up {S S' : Sto} (h : Up [] S S') {x : V} (k : Kn S x) : Kn S' x := by
  obtain ⟨t, e⟩ := Option.isSome_iff_exists.mp k
  exact Option.isSome_iff_exists.mpr ⟨t, tyN_up h e⟩
theorem tyN_lst {S : Sto} {n : Nat} {xs : List V} (h : S[n]? = some (.lst xs)) : tyN (.ref n) S = some "list" := by unfold tyN; simp only [h]
theorem tyN_tup {S : Sto} {n : Nat} {xs : List V} (h : S[n]? = some (.tup xs)) : tyN (.ref n) S = some "tuple" := by unfold tyN; simp only [h]
theorem tyN_dK {S : Sto} {n : Nat} {xs : List (Key × V)} (h : S[n]? = some (.dK xs)) : tyN (.ref n) S = some "dict" := by unfold tyN; simp only [h]
theorem Kn.lst {S : Sto} {n : Nat} {xs : List V} (h : S[n]? = some (.lst xs)) : Kn S (.ref n) := by unfold Kn; rw [tyN_lst h]; rfl
theorem Kn.tup {S : Sto} {n : Nat} {xs : List V} (h : S[n]? = some (.tup xs)) : Kn S (.ref n) := by unfold Kn; rw [tyN_tup h]; rfl
theorem Kn.dK {S : Sto} {n : Nat} {xs : List (Key × V)} (h : S[n]? = some (.dK xs)) : Kn S (.ref n) := by unfold Kn; rw [tyN_dK h]; rfl
theorem tyN_is {S : Sto} {x : V} (h : tyN x S = some "list") : ∃ (n : Nat) (xs : List V), x = .ref n ∧ S[n]? = some (.lst xs) := by
  cases x with
  | ref n =>
    refine ⟨n, ?_⟩
    unfold tyN at h
    cases ho : S[n]? with
    | none => simp only [ho] at h; cases h
    | some o =>
      cases o with
      | lst xs => exact ⟨xs, rfl, rfl⟩
      | frl xs => simp only [ho] at h; cases h
      | tup xs => simp only [ho] at h; exact absurd h (by decide)
      | dK xs => simp only [ho] at h; exact absurd h (by decide)
      | dT xs => simp only [ho] at h; exact absurd h (by decide)
      | fD xs => simp only [ho] at h; cases h
      | tab xs q => simp only [ho] at h; cases h
      | dN xs => simp only [ho] at h; cases h
      | ins c xs => simp only [ho] at h; cases h
  | non => exact absurd h (by simp [tyN])
  | bl b => exact absurd h (by simp [tyN])
  | int b => exact absurd h (by simp [tyN])
  | str b => exact absurd h (by simp [tyN])
  | _ => cases h
theorem tyN_mem {S : Sto} {x : V} {t : String} (h : tyN x S = some t) : t ∈ ["NoneType", "bool", "int", "str", "list", "tuple", "dict"] := by
  cases x with
  | ref n =>
    unfold tyN at h
    cases ho : S[n]? with
    | none => simp only [ho] at h; cases h
    | some o =>
      cases o <;> simp only [ho] at h <;> first | (cases h; simp; done) | cases h
  | non => cases h; decide
  | bl b => cases h; decide
  | int b => cases h; decide
  | str b => cases h; decide
  | _ => cases h
theorem isi_of {S : Sto} {x : V} {t b : String} (h : tyN x S = some t) (hb : b ∈ ["bool", "int", "str", "list", "tuple", "dict"]) : isiM [x, .ty b] S = .ok (.bl (decide (t = b) || (decide (t = "bool") && decide (b = "int")))) S := by
  unfold isiM
  simp only [h]
  unfold isB
  rw [if_pos ⟨tyN_mem h, hb⟩]
theorem tyN_int {S : Sto} {x : V} (h : tyN x S = some "int") : ∃ i, x = .int i := by
  cases x with
  | ref n =>
    unfold tyN at h
    cases ho : S[n]? with
    | none => simp only [ho] at h; cases h
    | some o => cases o <;> simp only [ho] at h <;> first | cases h | exact absurd h (by decide)
  | non => exact absurd h (by simp [tyN])
  | bl b => exact absurd h (by simp [tyN])
  | int b => exact ⟨b, rfl⟩
  | str b => exact absurd h (by simp [tyN])
  | _ => cases h
theorem tyN_bool {S : Sto} {x : V} (h : tyN x S = some "bool") : ∃ i, x = .bl i := by
  cases x with
  | ref n =>
    unfold tyN at h
    cases ho : S[n]? with
    | none => simp only [ho] at h; cases h
    | some o => cases o <;> simp only [ho] at h <;> first | cases h | exact absurd h (by decide)
  | non => exact absurd h (by simp [tyN])
  | bl b => exact ⟨b, rfl⟩
  | int b => exact absurd h (by simp [tyN])
  | str b => exact absurd h (by simp [tyN])
  | _ => cases h
theorem tupleM_at {S : Sto} {a : Nat} {xs : List V} (h : S[a]? = some (.lst xs)) : tupleM [.ref a] S = .ok (.ref S.length) (S ++ [.tup xs]) := by
  show (match rdL (.ref a) S with
    | some xs => alloc (.tup xs) S
    | none => match rdT (.ref a) S with
      | some _ => .ok (.ref a) S
      | none => .bad) = _
  rw [rdL_lst h]
  rfl
end Fx
/-! Fx: equations of the words of FC. -/
namespace Fx
open PySem L2
def kClD (r : R (List V)) (n : Nat) (dv : Int) (m : List V → Sto → R V) : R V := match r with
  | .ok vs S => if vs.length = n then m (vs ++ [.int dv]) S else .bad
  | .exc c S => .exc c S
  | .bad => .bad
theorem eClD_eq (n : Nat) (dv : Int) (m : List V → Sto → R V) (ma : St → Sto → R (List V)) (σ : St) (S : Sto) : eClD n dv m ma σ S = kClD (ma σ S) n dv m := by
  unfold eClD kClD R.bind; cases ma σ S <;> rfl
theorem kClD_1 (x : V) (S : Sto) (dv : Int) (m : List V → Sto → R V) : kClD (.ok [x] S) 1 dv m = m [x, .int dv] S := rfl
def exBP := And.intro @eClD_eq @kClD_1
theorem exB : type_of% exBP := exBP
end Fx
/-! Fx: dicts at work; loops that may return; picking one from few. -/
namespace Fx
open PySem L2
/-! equations -/
def kD2 (r : R V) (x : V) : R V := match r with
  | .ok y S => match keyOf x with
    | some k => .ok (.ref S.length) (S ++ [.dK [(k, y)]])
    | none => .bad
  | _ => .bad
def kD1 (r : R V) (mv : St → Sto → R V) (σ : St) : R V := match r with
  | .ok x S => kD2 (mv σ S) x
  | _ => .bad
def getQ (x y : V) (S : Sto) : R V := match rdK x S with
  | some kvs => match keyOf y with
    | some k => .ok ((valV kvs k).getD .non) S
    | none => .bad
  | none => .bad
def kGe2 (r : R V) (x : V) : R V := match r with
  | .ok y S => getQ x y S
  | .exc c S => .exc c S
  | .bad => .bad
def kGe1 (o : Option (List (Key × V))) (r : R V) (x : V) : R V := match o with
  | some _ => kGe2 r x
  | none => .bad
def kGe (r : R V) (mk : St → Sto → R V) (σ : St) : R V := match r with
  | .ok x S => kGe1 (rdK x S) (mk σ S) x
  | .exc c S => .exc c S
  | .bad => .bad
section
variable (σ : St) (S : Sto)
theorem eD1_eq (mk mv : St → Sto → R V) : eD1 mk mv σ S = kD1 (mk σ S) mv σ := by
  unfold eD1 kD1 kD2 R.bind R.nox
  cases mk σ S with
  | ok x S1 => dsimp only; cases mv σ S1 <;> rfl
  | exc c S1 => rfl
  | bad => rfl
theorem kD1_ok (x : V) (mv : St → Sto → R V) : kD1 (.ok x S) mv σ = kD2 (mv σ S) x := rfl
theorem kD2_int (y : V) (i : Int) : kD2 (.ok y S) (.int i) = .ok (.ref S.length) (S ++ [.dK [(.inl i, y)]]) := rfl
theorem eGet_eq (mo mk : St → Sto → R V) : eGet mo mk σ S = kGe (mo σ S) mk σ := by
  unfold eGet kGe R.bind
  cases mo σ S with
  | ok x S1 =>
    dsimp only
    unfold kGe1 kGe2
    cases rdK x S1 with
    | none => rfl
    | some kvs => dsimp only; cases mk σ S1 <;> rfl
  | exc c S1 => rfl
  | bad => rfl
theorem kGe_ok (x : V) (mk : St → Sto → R V) : kGe (.ok x S) mk σ = kGe1 (rdK x S) (mk σ S) x := rfl
theorem kGe1_ok (kvs : List (Key × V)) (r : R V) (x : V) : kGe1 (some kvs) r x = kGe2 r x := rfl
theorem kGe2_ok (x y : V) : kGe2 (.ok y S) x = getQ x y S := rfl
theorem notNM_int (i : Int) : notNM (.int i) .non S = .ok (.bl true) S := rfl
end
def exDP := And.intro @eD1_eq (And.intro @kD1_ok (And.intro @kD2_int (And.intro @eGet_eq (And.intro @kGe_ok (And.intro @kGe1_ok (And.intro @kGe2_ok (And.intro @notNM_int @notNM_non)))))))
theorem exD : type_of% exDP := exDP
theorem rdK_at {S : Sto} {n : Nat} {kvs : List (Key × V)} (h : S[n]? = some (.dK kvs)) : rdK (.ref n) S = some kvs := by simp only [rdK, h]
/-! a dict of whole numbers by whole numbers -/
def DN (S : Sto) (n : Nat) (f : Nat → Option Nat) (m : Nat) : Prop := ∃ kvs, S[n]? = some (.dK kvs) ∧ (∀ i : Nat, valV kvs (.inl (i : Int)) = (f i).map fun (c : Nat) => V.int c) ∧ kvs.length ≤ m
def oV (o : Option Nat) : V := match o with
  | some c => .int c
  | none => .non
def fput {α : Type} (f : Nat → Option α) (i : Nat) (c : α) : Nat → Option α := fun j => if j = i then some c else f j
theorem fput_same {α : Type} {f : Nat → Option α} {i : Nat} {c : α} : fput f i c i = some c := if_pos rfl
theorem fput_ne {α : Type} {f : Nat → Option α} {i j : Nat} {c : α} (h : j ≠ i) : fput f i c j = f j := if_neg h
theorem DN.upM {M : List Nat} {S S' : Sto} {n m : Nat} {f : Nat → Option Nat} (d : DN S n f m) (h : Up M S S') (hn : n ∉ M) : DN S' n f m := by
  obtain ⟨kvs, e, v, l⟩ := d
  exact ⟨kvs, h.at' n _ hn e, v, l⟩
theorem DN.up {S S' : Sto} {n m : Nat} {f : Nat → Option Nat} (d : DN S n f m) (h : Up [] S S') : DN S' n f m := d.upM h (fun h => nomatch h)
theorem DN.le {S : Sto} {n m m' : Nat} {f : Nat → Option Nat} (d : DN S n f m) (h : m ≤ m') : DN S n f m' := by
  obtain ⟨kvs, e, v, l⟩ := d
  exact ⟨kvs, e, v, Nat.le_trans l h⟩
theorem DN.lt {S : Sto} {n m : Nat} {f : Nat → Option Nat} (d : DN S n f m) : n < S.length := by
  obtain ⟨kvs, e, v, l⟩ := d
  exact slt e
theorem DN.get {S : Sto} {n m i c : Nat} {f : Nat → Option Nat} (d : DN S n f m) (h : f i = some c) : dixM (.ref n) (.int i) S = .ok (.int c) S := by
  obtain ⟨kvs, e, v, l⟩ := d
  have := v i
  rw [h] at this
  unfold dixM
  rw [rdK_at e]
  simp only [keyOf, this, Option.map_some]
theorem DN.isin {S : Sto} {n m : Nat} {f : Nat → Option Nat} (d : DN S n f m) (neg : Bool) (i : Nat) : dinM neg (.int i) (.ref n) S = .ok (.bl (if neg = true then !(f i).isSome else (f i).isSome)) S := by
  obtain ⟨kvs, e, v, l⟩ := d
  unfold dinM
  rw [rdK_at e]
  simp only [keyOf, v i, Option.isSome_map]
theorem DN.rd {S : Sto} {n m : Nat} {f : Nat → Option Nat} (d : DN S n f m) : ∃ kvs, rdK (.ref n) S = some kvs := by
  obtain ⟨kvs, e, v, l⟩ := d
  exact ⟨kvs, rdK_at e⟩
theorem DN.getQ {S : Sto} {n m : Nat} {f : Nat → Option Nat} (d : DN S n f m) (i : Nat) : getQ (.ref n) (.int i) S = .ok (oV (f i)) S := by
  obtain ⟨kvs, e, v, l⟩ := d
  unfold Fx.getQ
  rw [rdK_at e]
  simp only [keyOf, v i]
  cases f i <;> rfl
theorem setD_at {S : Sto} {n : Nat} {kvs : List (Key × V)} {v : V} {i : Int} (h : S[n]? = some (.dK kvs)) (hl : kvs.length < 16777216) : setD (.ref n) (.int i) v S = .ok () (S.set n (.dK (putK kvs (.inl i) v))) := by
  simp only [setD, rdK_at h, keyOf]
  exact if_pos hl
theorem DN.put {S : Sto} {n m : Nat} {f : Nat → Option Nat} (d : DN S n f m) (hm : m < 16777216) (i c : Nat) : ∃ S', setD (.ref n) (.int i) (.int c) S = .ok () S' ∧ Up [n] S S' ∧ S'.length = S.length ∧ DN S' n (fput f i c) (m + 1) := by
  obtain ⟨kvs, e, v, l⟩ := d
  refine ⟨_, setD_at e (by omega), Up.set (List.mem_singleton.mpr rfl) _, List.length_set .., _, sset_same e, fun j => ?_, by have := length_putK kvs (.inl (i : Int)) (V.int c); omega⟩
  rw [valV_put]
  unfold fput
  by_cases hj : j = i
  · subst hj; rw [if_pos rfl, if_pos rfl]; rfl
  · rw [if_neg hj, if_neg (fun h => hj (by injection h with h; omega))]; exact v j
theorem DN.new (S : Sto) : DN (S ++ [.dK []]) S.length (fun _ => none) 0 := ⟨[], snew _ _, fun _ => rfl, Nat.le_refl _⟩
/-! a dict of whole numbers or None by whole numbers, its keys in turn -/
structure CN (S : Sto) (n : Nat) (g : Nat → Option (Option Nat)) (ks : List Nat) : Prop where
  ex : ∃ kvs, S[n]? = some (.dK kvs) ∧ (∀ i : Nat, valV kvs (.inl (i : Int)) = (g i).map oV) ∧ kvs.map (·.1) = ks.map fun (k : Nat) => (.inl (k : Int) : Key)
theorem CN.upM {M : List Nat} {S S' : Sto} {n : Nat} {g : Nat → Option (Option Nat)} {ks : List Nat} (d : CN S n g ks) (h : Up M S S') (hn : n ∉ M) : CN S' n g ks := by
  obtain ⟨kvs, e, v, l⟩ := d
  exact ⟨kvs, h.at' n _ hn e, v, l⟩
theorem CN.up {S S' : Sto} {n : Nat} {g : Nat → Option (Option Nat)} {ks : List Nat} (d : CN S n g ks) (h : Up [] S S') : CN S' n g ks := d.upM h (fun h => nomatch h)
theorem CN.lt {S : Sto} {n : Nat} {g : Nat → Option (Option Nat)} {ks : List Nat} (d : CN S n g ks) : n < S.length := by
  obtain ⟨kvs, e, v, l⟩ := d
  exact slt e
theorem CN.get {S : Sto} {n i : Nat} {o : Option Nat} {g : Nat → Option (Option Nat)} {ks : List Nat} (d : CN S n g ks) (h : g i = some o) : dixM (.ref n) (.int i) S = .ok (oV o) S := by
  obtain ⟨kvs, e, v, l⟩ := d
  have := v i
  rw [h] at this
  unfold dixM
  rw [rdK_at e]
  simp only [keyOf, this, Option.map_some]
theorem CN.isin {S : Sto} {n : Nat} {g : Nat → Option (Option Nat)} {ks : List Nat} (d : CN S n g ks) (neg : Bool) (i : Nat) : dinM neg (.int i) (.ref n) S = .ok (.bl (if neg = true then !(g i).isSome else (g i).isSome)) S := by
  obtain ⟨kvs, e, v, l⟩ := d
  unfold dinM
  rw [rdK_at e]
  simp only [keyOf, v i, Option.isSome_map]
theorem CN.put {S : Sto} {n : Nat} {g : Nat → Option (Option Nat)} {ks : List Nat} (d : CN S n g ks) (hm : ks.length < 16777216) {i : Nat} (hi : g i = none) (c : Nat) : ∃ S', setD (.ref n) (.int i) (.int c) S = .ok () S' ∧ Up [n] S S' ∧ S'.length = S.length ∧ CN S' n (fput g i (some c)) (ks ++ [i]) := by
  obtain ⟨kvs, e, v, l⟩ := d
  have hl := congrArg List.length l
  rw [List.length_map, List.length_map] at hl
  have hn : valV kvs (.inl (i : Int)) = none := by rw [v i, hi]; rfl
  refine ⟨_, setD_at e (by omega), Up.set (List.mem_singleton.mpr rfl) _, List.length_set .., _, sset_same e, fun j => ?_, by rw [putK_new _ hn, List.map_append, List.map_append, l]; rfl⟩
  rw [valV_put]
  unfold fput
  by_cases hj : j = i
  · subst hj; rw [if_pos rfl, if_pos rfl]; rfl
  · rw [if_neg hj, if_neg (fun h => hj (by injection h with h; omega))]; exact v j
theorem intKeys_of : ∀ {kvs : List (Key × V)} {ks : List Nat}, kvs.map (·.1) = ks.map (fun (k : Nat) => (.inl (k : Int) : Key)) → intKeys kvs = some (ks.map fun (k : Nat) => (k : Int))
  | [], [], _ => rfl
  | [], _ :: _, h => by cases h
  | _ :: _, [], h => by cases h
  | (x, v) :: r, k :: ks, h => by
    rw [List.map_cons, List.map_cons] at h
    injection h with h1 h2
    have h1 : x = .inl (k : Int) := h1
    subst h1
    show (intKeys r).map (((k : Nat) : Int) :: ·) = _
    rw [intKeys_of h2]; rfl
theorem CN.sorted {S : Sto} {n : Nat} {g : Nat → Option (Option Nat)} {ks : List Nat} (d : CN S n g ks) (hl : ks.length < 64) : sortKM [.ref n] S = .ok (.ref S.length) (S ++ [.lst ((upS (ks.map fun (k : Nat) => (k : Int))).map V.int)]) := by
  obtain ⟨kvs, e, v, l⟩ := d
  unfold sortKM
  simp only [rdK_at e, intKeys_of l, List.length_map, if_pos hl]
  rfl
theorem CN.one (S : Sto) (k : Nat) : CN (S ++ [.dK [(.inl (k : Int), .non)]]) S.length (fun j => if j = k then some none else none) [k] := by
  refine ⟨_, snew _ _, fun j => ?_, rfl⟩
  by_cases h : j = k
  · subst h; rw [valV_pos rfl, if_pos rfl]; rfl
  · rw [valV_neg (fun e => h (by injection e with e; omega)), if_neg h]; rfl
/-! a dict by its keys alone -/
def DS (S : Sto) (n : Nat) (ks : List Nat) : Prop := ∃ kvs : List (Key × V), S[n]? = some (.dK kvs) ∧ kvs.map (·.1) = ks.map fun (k : Nat) => (.inl (k : Int) : Key)
theorem DS.upM {M : List Nat} {S S' : Sto} {n : Nat} {ks : List Nat} (d : DS S n ks) (h : Up M S S') (hn : n ∉ M) : DS S' n ks := by
  obtain ⟨kvs, e, l⟩ := d
  exact ⟨kvs, h.at' n _ hn e, l⟩
theorem DS.up {S S' : Sto} {n : Nat} {ks : List Nat} (d : DS S n ks) (h : Up [] S S') : DS S' n ks := d.upM h (fun h => nomatch h)
theorem DS.new (S : Sto) : DS (S ++ [.dK []]) S.length [] := ⟨[], snew _ _, rfl⟩
theorem valV_mem : ∀ {kvs : List (Key × V)} {ks : List Nat} (i : Nat), kvs.map (·.1) = ks.map (fun (k : Nat) => (.inl (k : Int) : Key)) → (valV kvs (.inl (i : Int))).isSome = decide (i ∈ ks)
  | [], [], i, _ => rfl
  | [], _ :: _, _, h => by cases h
  | _ :: _, [], _, h => by cases h
  | (x, v) :: r, k :: ks, i, h => by
    rw [List.map_cons, List.map_cons] at h
    injection h with h1 h2
    have h1 : x = .inl (k : Int) := h1
    subst h1
    by_cases e : k = i
    · subst e; rw [valV_pos rfl]; simp
    · rw [valV_neg (fun h => e (by injection h with h; omega)), valV_mem i h2]
      have : i ≠ k := fun h => e h.symm
      simp [this]
theorem DS.isin {S : Sto} {n : Nat} {ks : List Nat} (d : DS S n ks) (neg : Bool) (i : Nat) : dinM neg (.int i) (.ref n) S = .ok (.bl (if neg = true then !decide (i ∈ ks) else decide (i ∈ ks))) S := by
  obtain ⟨kvs, e, l⟩ := d
  unfold dinM
  rw [rdK_at e]
  simp only [keyOf, valV_mem i l]
theorem DS.len {S : Sto} {n : Nat} {ks : List Nat} (d : DS S n ks) : lenDM [.ref n] S = .ok (.int ks.length) S := by
  obtain ⟨kvs, e, l⟩ := d
  have hl := congrArg List.length l
  rw [List.length_map, List.length_map] at hl
  simp only [lenDM, rdK_at e, hl]
theorem DS.put {S : Sto} {n : Nat} {ks : List Nat} (d : DS S n ks) (hm : ks.length < 16777216) (i : Nat) (v : V) : ∃ S', setD (.ref n) (.int i) v S = .ok () S' ∧ Up [n] S S' ∧ S'.length = S.length ∧ DS S' n (if i ∈ ks then ks else ks ++ [i]) := by
  obtain ⟨kvs, e, l⟩ := d
  have hl := congrArg List.length l
  rw [List.length_map, List.length_map] at hl
  refine ⟨_, setD_at e (by omega), Up.set (List.mem_singleton.mpr rfl) _, List.length_set .., _, sset_same e, ?_⟩
  have hv := valV_mem i l
  by_cases hi : i ∈ ks
  · rw [if_pos hi, ← l]
    unfold putK
    rw [valV_any, hv, decide_eq_true hi, if_pos rfl, List.map_map]
    exact List.map_congr_left fun kv _ => by
      show (if kv.1 = .inl (i : Int) then (kv.1, v) else kv).1 = kv.1
      split <;> rfl
  · rw [if_neg hi]
    have hn : valV kvs (.inl (i : Int)) = none := by
      rw [decide_eq_false hi] at hv
      exact Option.isSome_eq_false_iff.mp hv |> Option.isNone_iff_eq_none.mp
    rw [putK_new _ hn, List.map_append, List.map_append, l]; rfl
/-! loops that may return -/
def Tr (r : R Fl) (Q : St → Sto → Prop) (Z : V → Sto → Prop) : Prop := match r with
  | .ok (.nx σ) S => Q σ S
  | .ok (.ct σ) S => Q σ S
  | .ok (.rt v) S => Z v S
  | _ => False
theorem Tr_nx (σ : St) (S : Sto) (Q : St → Sto → Prop) (Z : V → Sto → Prop) : Tr (.ok (.nx σ) S) Q Z = Q σ S := rfl
theorem Tr_rt (v : V) (S : Sto) (Q : St → Sto → Prop) (Z : V → Sto → Prop) : Tr (.ok (.rt v) S) Q Z = Z v S := rfl
theorem Tr.ex {r : R Fl} {Q : St → Sto → Prop} {Z : V → Sto → Prop} (h : Tr r Q Z) : (∃ σ S, (r = .ok (.nx σ) S ∨ r = .ok (.ct σ) S) ∧ Q σ S) ∨ ∃ v S, r = .ok (.rt v) S ∧ Z v S := by
  unfold Tr at h
  split at h
  · exact .inl ⟨_, _, .inl rfl, h⟩
  · exact .inl ⟨_, _, .inr rfl, h⟩
  · exact .inr ⟨_, _, rfl, h⟩
  · exact h.elim
theorem forM_ret {chk : Sto → Bool} {tg : Itm → St → Sto → R St} {ws : List Nat} {body : St → Sto → R Fl} {items : List Itm} (I : Nat → St → Sto → Prop) (Z : V → Sto → Prop) (hc : ∀ i σ S, I i σ S → chk S = true)
    (hs : ∀ i it σ S, items[i]? = some it → I i σ S → ∃ σ1, tg it σ S = .ok σ1 S ∧ Tr (body σ1 S) (fun σ2 S2 => I (i + 1) (wipe σ2 ws) S2) Z) {σ : St} {S : Sto} (h0 : I 0 σ S) :
    (∃ σ' S', forM chk tg ws body items σ S = .ok (.nx σ') S' ∧ I items.length σ' S') ∨ ∃ v S', forM chk tg ws body items σ S = .ok (.rt v) S' ∧ Z v S' := by
  have go : ∀ (k i : Nat) (σ : St) (S : Sto), items.length = i + k → I i σ S → (∃ σ' S', forM chk tg ws body (items.drop i) σ S = .ok (.nx σ') S' ∧ I items.length σ' S') ∨ ∃ v S', forM chk tg ws body (items.drop i) σ S = .ok (.rt v) S' ∧ Z v S' := by
    intro k
    induction k with
    | zero =>
      intro i σ S hk hI
      have : i = items.length := by omega
      subst this
      rw [List.drop_length]
      exact .inl ⟨σ, S, by simp [forM, hc _ _ _ hI], hI⟩
    | succ k ih =>
      intro i σ S hk hI
      have hi : i < items.length := by omega
      rw [List.drop_eq_getElem_cons hi, forM, if_pos (hc _ _ _ hI)]
      obtain ⟨σ1, h1, hT⟩ := hs i items[i] σ S (List.getElem?_eq_getElem hi) hI
      rw [h1, sE_ok]
      rcases hT.ex with ⟨σ2, S2, h2, h3⟩ | ⟨v, S2, h2, h3⟩
      · rcases h2 with h2 | h2
        · rw [h2]; exact ih (i + 1) _ _ (by omega) h3
        · rw [h2]; exact ih (i + 1) _ _ (by omega) h3
      · rw [h2]; exact .inr ⟨v, S2, rfl, h3⟩
  have := go items.length 0 σ S (by omega) h0
  rwa [List.drop_zero] at this
theorem whileM_ret {t : St → Sto → R Bool} {ws : List Nat} {body : St → Sto → R Fl} (I : St → Sto → Prop) (J : St → Sto → Prop) (Z : V → Sto → Prop) (μ : St → Sto → Nat)
    (hs : ∀ σ S, I σ S → (∃ S1, t σ S = .ok false S1 ∧ J σ S1) ∨ ∃ S1, t σ S = .ok true S1 ∧ Tr (body σ S1) (fun σ2 S2 => I (wipe σ2 ws) S2 ∧ μ (wipe σ2 ws) S2 < μ σ S) Z) {σ : St} {S : Sto} (h0 : I σ S) :
    (∃ σ' S', whileM t ws body σ S = .ok (.nx σ') S' ∧ J σ' S') ∨ ∃ v S', whileM t ws body σ S = .ok (.rt v) S' ∧ Z v S' := by
  have go : ∀ (n : Nat) (σ : St) (S : Sto), μ σ S ≤ n → I σ S → (∃ σ' S', whileM t ws body σ S = .ok (.nx σ') S' ∧ J σ' S') ∨ ∃ v S', whileM t ws body σ S = .ok (.rt v) S' ∧ Z v S' := by
    intro n
    induction n with
    | zero =>
      intro σ S hn hI
      rw [whileM_turn]
      rcases hs σ S hI with ⟨S1, h1, h2⟩ | ⟨S1, h1, hT⟩
      · rw [h1]; exact .inl ⟨σ, S1, rfl, h2⟩
      · rw [h1]
        dsimp only
        rcases hT.ex with ⟨σ2, S2, h2, h3, h4⟩ | ⟨v, S2, h2, h3⟩
        · omega
        · rw [h2]; exact .inr ⟨v, S2, rfl, h3⟩
    | succ n ih =>
      intro σ S hn hI
      rw [whileM_turn]
      rcases hs σ S hI with ⟨S1, h1, h2⟩ | ⟨S1, h1, hT⟩
      · rw [h1]; exact .inl ⟨σ, S1, rfl, h2⟩
      · rw [h1]
        dsimp only
        rcases hT.ex with ⟨σ2, S2, h2, h3, h4⟩ | ⟨v, S2, h2, h3⟩
        · rcases h2 with h2 | h2
          · rw [h2]; exact ih _ _ (by omega) h3
          · rw [h2]; exact ih _ _ (by omega) h3
        · rw [h2]; exact .inr ⟨v, S2, rfl, h3⟩
  exact go _ σ S (Nat.le_refl _) h0
/-! as many as there are places -/
theorem nodup_le {α β : Type} [DecidableEq β] (f : α → β) : ∀ {xs : List α} {ys : List β}, (xs.map f).Nodup → (∀ x ∈ xs, f x ∈ ys) → xs.length ≤ ys.length
  | [], _, _, _ => Nat.zero_le _
  | x :: xs, ys, h, hm => by
    rw [List.map_cons, List.nodup_cons] at h
    have hx := hm x List.mem_cons_self
    have := nodup_le f (xs := xs) (ys := ys.erase (f x)) h.2 (fun z hz => by
      refine (List.mem_erase_of_ne fun e => h.1 ?_).mpr (hm z (List.mem_cons_of_mem _ hz))
      rw [← e]; exact List.mem_map_of_mem hz)
    have hl := List.length_erase_of_mem hx
    have h0 := List.length_pos_of_mem hx
    rw [List.length_cons]; omega
end Fx
/-! Fx: dicts by tuples at work. -/
namespace Fx
open PySem L2
theorem eDnewT_eq (σ : St) (S : Sto) : eDnewT σ S = .ok (.ref S.length) (S ++ [.dT []]) := rfl
def exTP := And.intro @eDnewT_eq (And.intro @kGT1 (And.intro @kGT2 @kGT3))
theorem exT : type_of% exTP := exTP
theorem rdD_at {S : Sto} {n : Nat} {kvs : List (TK × V)} (h : S[n]? = some (.dT kvs)) : rdD (.ref n) S = some kvs := by simp only [rdD, h]
def tkI (ns : List Int) : TK := ns.map Sum.inl
theorem keysOf_ints : ∀ ns : List Int, keysOf (ns.map V.int) = some (tkI ns)
  | [] => rfl
  | n :: ns => by
    show ((keysOf (ns.map V.int)).map ((Sum.inl n : Key) :: ·)) = _
    rw [keysOf_ints ns]; rfl
theorem keyT_ints {S : Sto} {n : Nat} {ns : List Int} (h : S[n]? = some (.tup (ns.map V.int))) : keyT (.ref n) S = some (tkI ns) := by
  unfold keyT
  rw [rdT_tup h]
  exact keysOf_ints ns
theorem tkI_inj {a b : List Int} (h : tkI a = tkI b) : a = b := by
  unfold tkI at h
  exact List.map_inj_right (fun x y e => by injection e) |>.mp h
/-- a dict by tuples of ints, told by its keys alone -/
def DTS (S : Sto) (n : Nat) (ks : List (List Int)) : Prop := ∃ kvs : List (TK × V), S[n]? = some (.dT kvs) ∧ kvs.map (·.1) = ks.map tkI
theorem DTS.upM {M : List Nat} {S S' : Sto} {n : Nat} {ks : List (List Int)} (d : DTS S n ks) (h : Up M S S') (hn : n ∉ M) : DTS S' n ks := by
  obtain ⟨kvs, e, l⟩ := d
  exact ⟨kvs, h.at' n _ hn e, l⟩
theorem DTS.up {S S' : Sto} {n : Nat} {ks : List (List Int)} (d : DTS S n ks) (h : Up [] S S') : DTS S' n ks := d.upM h (fun h => nomatch h)
theorem DTS.new (S : Sto) : DTS (S ++ [.dT []]) S.length [] := ⟨[], snew _ _, rfl⟩
theorem valT_mem : ∀ {kvs : List (TK × V)} {ks : List (List Int)} (i : List Int), kvs.map (·.1) = ks.map tkI → (valV kvs (tkI i)).isSome = decide (i ∈ ks)
  | [], [], i, _ => rfl
  | [], _ :: _, _, h => by cases h
  | _ :: _, [], _, h => by cases h
  | (x, v) :: r, k :: ks, i, h => by
    rw [List.map_cons, List.map_cons] at h
    injection h with h1 h2
    have h1 : x = tkI k := h1
    subst h1
    by_cases e : k = i
    · subst e; rw [valV_pos rfl]; simp
    · rw [valV_neg (fun h => e (tkI_inj h)), valT_mem i h2]
      have : i ≠ k := fun h => e h.symm
      simp [this]
theorem DTS.isin {S : Sto} {n m : Nat} {ks : List (List Int)} (d : DTS S n ks) {i : List Int} (h : S[m]? = some (.tup (i.map V.int))) (neg : Bool) : dinT neg (.ref m) (.ref n) S = .ok (.bl (if neg = true then !decide (i ∈ ks) else decide (i ∈ ks))) S := by
  obtain ⟨kvs, e, l⟩ := d
  unfold dinT
  rw [rdD_at e]
  simp only [keyT_ints h, valT_mem i l]
theorem DTS.put {S : Sto} {n m : Nat} {ks : List (List Int)} (d : DTS S n ks) (hm : ks.length < 16777216) {i : List Int} (h : S[m]? = some (.tup (i.map V.int))) (hi : i ∉ ks) (v : V) : ∃ S', setT (.ref n) (.ref m) v S = .ok () S' ∧ Up [n] S S' ∧ S'.length = S.length ∧ DTS S' n (ks ++ [i]) := by
  obtain ⟨kvs, e, l⟩ := d
  have hl := congrArg List.length l
  rw [List.length_map, List.length_map] at hl
  have hn : valV kvs (tkI i) = none := by
    have := valT_mem i l
    rw [decide_eq_false hi] at this
    exact Option.isSome_eq_false_iff.mp this |> Option.isNone_iff_eq_none.mp
  refine ⟨S.set n (.dT (putK kvs (tkI i) v)), ?_, Up.set (List.mem_singleton.mpr rfl) _, List.length_set .., _, sset_same e, by rw [putK_new _ hn, List.map_append, List.map_append, l]; rfl⟩
  simp only [setT, rdD_at e, keyT_ints h]
  exact if_pos (show kvs.length < 16777216 by omega)
end Fx
/-! Fx: instances at work. -/
namespace Fx
open PySem L2
section
variable {σ : St} {S : Sto}
def stF (c f : String) (x y : V) (σ : St) (S : Sto) : R Fl := match x with
  | .ref n => match S[n]? with
    | some (.ins c' fs) => if c' = c ∧ fs.length < 1000 then .ok (.nx σ) (S.set n (.ins c (putS f y fs))) else .bad
    | _ => .bad
  | _ => .bad
def kFl2 (r : R V) (c f : String) (y : V) (σ : St) : R Fl := match r with
  | .ok x S => stF c f x y σ S
  | .exc c S => .ok (.rs c σ) S
  | .bad => .bad
def kFl1 (r : R V) (mo : St → Sto → R V) (c f : String) (σ : St) : R Fl := match r with
  | .ok y S => kFl2 (mo σ S) c f y σ
  | .exc c S => .ok (.rs c σ) S
  | .bad => .bad
theorem sFl_eq (c f : String) (mo mv : St → Sto → R V) : sFl c f mo mv σ S = kFl1 (mv σ S) mo c f σ := by
  unfold sFl kFl1 sE
  cases mv σ S with
  | ok y S1 =>
    dsimp only
    unfold kFl2
    cases mo σ S1 with
    | ok x S2 => rfl
    | exc c S2 => rfl
    | bad => rfl
  | exc c S1 => rfl
  | bad => rfl
theorem kFl1_ok (y : V) (mo : St → Sto → R V) (c f : String) : kFl1 (.ok y S) mo c f σ = kFl2 (mo σ S) c f y σ := rfl
theorem kFl2_ok (x y : V) (c f : String) : kFl2 (.ok x S) c f y σ = stF c f x y σ S := rfl
def kMk2 (r : R V) (n : Nat) : R V := match r with
  | .ok .non S => .ok (.ref n) S
  | _ => .bad
def kMk (r : R (List V)) (c : String) (n : Nat) (m : List V → Sto → R V) : R V := match r with
  | .ok vs S => if vs.length = n then kMk2 (m (.ref S.length :: vs) (S ++ [.ins c []])) S.length else .bad
  | .exc c S => .exc c S
  | .bad => .bad
theorem eMk_eq (c : String) (n : Nat) (m : List V → Sto → R V) (ma : St → Sto → R (List V)) : eMk c n m ma σ S = kMk (ma σ S) c n m := by
  unfold eMk kMk
  cases ma σ S with
  | ok vs S1 =>
    show (if vs.length = n then _ else _) = _
    dsimp only
    by_cases h : vs.length = n
    · rw [if_pos h, if_pos h]
      unfold kMk2
      cases m (.ref S1.length :: vs) (S1 ++ [.ins c []]) with
      | ok v S2 => cases v <;> rfl
      | exc c S2 => rfl
      | bad => rfl
    · rw [if_neg h, if_neg h]
  | exc c S1 => rfl
  | bad => rfl
theorem kMk_1 (c : String) (m : List V → Sto → R V) (a : V) : kMk (.ok [a] S) c 1 m = kMk2 (m [.ref S.length, a] (S ++ [.ins c []])) S.length := rfl
theorem kMk_2 (c : String) (m : List V → Sto → R V) (a b : V) : kMk (.ok [a, b] S) c 2 m = kMk2 (m [.ref S.length, a, b] (S ++ [.ins c []])) S.length := rfl
theorem kMk_3 (c : String) (m : List V → Sto → R V) (a b d : V) : kMk (.ok [a, b, d] S) c 3 m = kMk2 (m [.ref S.length, a, b, d] (S ++ [.ins c []])) S.length := rfl
theorem kMk_6 (c : String) (m : List V → Sto → R V) (a b d e f g : V) : kMk (.ok [a, b, d, e, f, g] S) c 6 m = kMk2 (m [.ref S.length, a, b, d, e, f, g] (S ++ [.ins c []])) S.length := rfl
theorem kMk2_ok (n : Nat) : kMk2 (.ok .non S) n = .ok (.ref n) S := rfl
def kMe (r : R V) (mn : String) (tbl : List (String × (List V → Sto → R V))) : R V := match r with
  | .ok x S => meM mn tbl x S
  | _ => .bad
theorem eMe_eq (mn : String) (tbl : List (String × (List V → Sto → R V))) (mo : St → Sto → R V) : eMe mn tbl mo σ S = kMe (mo σ S) mn tbl := by
  unfold eMe kMe
  cases mo σ S <;> rfl
theorem kMe_ok (x : V) (mn : String) (tbl : List (String × (List V → Sto → R V))) : kMe (.ok x S) mn tbl = meM mn tbl x S := rfl
def kIsO (r : R V) (tbl : List (String × Bool)) : R V := match r with
  | .ok x S => isoM tbl x S
  | .exc c S => .exc c S
  | .bad => .bad
theorem eIsO_eq (tbl : List (String × Bool)) (mo : St → Sto → R V) : eIsO tbl mo σ S = kIsO (mo σ S) tbl := by
  unfold eIsO kIsO
  cases mo σ S <;> rfl
theorem kIsO_ok (x : V) (tbl : List (String × Bool)) : kIsO (.ok x S) tbl = isoM tbl x S := rfl
def kT3 (r : R St) (t2 : V → St → Sto → R St) (y : V) : R St := match r with
  | .ok σ S => (t2 y σ S).nox
  | .exc c S => .exc c S
  | .bad => .bad
def kT2 (o : Option (List V)) (t1 t2 : V → St → Sto → R St) (σ : St) (S : Sto) : R St := match o with
  | some [x, y] => kT3 (t1 x σ S) t2 y
  | _ => .bad
theorem gT2_eq (t1 t2 : V → St → Sto → R St) (v : V) : gT2 t1 t2 v σ S = kT2 (rdT v S) t1 t2 σ S := by
  unfold gT2 kT2
  generalize rdT v S = o
  rcases o with _ | (_ | ⟨x, _ | ⟨y, _ | ⟨z, r⟩⟩⟩)
  · rfl
  · rfl
  · rfl
  · show (t1 x σ S).bind (fun σ1 S1 => (t2 y σ1 S1).nox) = kT3 (t1 x σ S) t2 y
    cases t1 x σ S <;> rfl
  · rfl
theorem kT2_ok (x y : V) (t1 t2 : V → St → Sto → R St) : kT2 (some [x, y]) t1 t2 σ S = kT3 (t1 x σ S) t2 y := rfl
theorem kT3_ok (t2 : V → St → Sto → R St) (y : V) : kT3 (.ok σ S) t2 y = (t2 y σ S).nox := rfl
def kLZ (r : R (List V)) : R V := match r with
  | .ok vs S => zipM vs S
  | .exc c S => .exc c S
  | .bad => .bad
theorem eLZ_eq (m : St → Sto → R (List V)) : eLZ m σ S = kLZ (m σ S) := by
  unfold eLZ kLZ
  cases m σ S <;> rfl
theorem kLZ_ok (vs : List V) (S : Sto) : kLZ (.ok vs S) = zipM vs S := rfl
def kIS (r : R V) : R AI := match r with
  | .ok (.str x) S => if x.cps.size ≤ lim then .ok (strI x, chkY) S else .bad
  | .exc c S => .exc c S
  | _ => .bad
theorem iS_eq (m : St → Sto → R V) : iS m σ S = kIS (m σ S) := by
  unfold iS kIS
  cases m σ S with
  | ok v S1 => cases v <;> rfl
  | exc c S1 => rfl
  | bad => rfl
theorem kIS_ok {x : Str} (h : x.cps.size ≤ 640) (S : Sto) : kIS (.ok (.str x) S) = .ok (strI x, chkY) S := by
  unfold kIS
  dsimp only
  rw [if_pos (by unfold lim; omega)]
def exIP := And.intro @iS_eq (And.intro @eLZ_eq (And.intro @kLZ_ok (And.intro @sFl_eq (And.intro @kFl1_ok (And.intro @kFl2_ok (And.intro @eMk_eq (And.intro @kMk_1 (And.intro @kMk_2 (And.intro @kMk_3 (And.intro @kMk_6 (And.intro @kMk2_ok (And.intro @eMe_eq (And.intro @kMe_ok (And.intro @eIsO_eq (And.intro @kIsO_ok (And.intro @gT2_eq (And.intro @kT2_ok (And.intro @kT3_ok (And.intro (@R.nox_ok V) (@R.nox_ok St))))))))))))))))))))
theorem exI : type_of% exIP := exIP
end
theorem rdIns_at {S : Sto} {n : Nat} {c : String} {fs : List (String × V)} (h : S[n]? = some (.ins c fs)) : rdIns (.ref n) S = some (c, fs) := by simp only [rdIns, h]
theorem fldM_at {S : Sto} {n : Nat} {c f : String} {fs : List (String × V)} {v : V} (h : S[n]? = some (.ins c fs)) (hf : fs.lookup f = some v) : fldM c f (.ref n) S = .ok v S := by
  simp only [fldM, rdIns_at h, hf, if_true]
theorem stF_at {σ : St} {S : Sto} {n : Nat} {c f : String} {fs : List (String × V)} {y : V} (h : S[n]? = some (.ins c fs)) (hl : fs.length < 1000) : stF c f (.ref n) y σ S = .ok (.nx σ) (S.set n (.ins c (putS f y fs))) := by
  simp only [stF, h, hl, and_self, if_true]
theorem meM_at {S : Sto} {n : Nat} {c mn : String} {fs : List (String × V)} {tbl : List (String × (List V → Sto → R V))} {m : List V → Sto → R V} (h : S[n]? = some (.ins c fs)) (hm : tbl.lookup c = some m) (hf : fs.lookup mn = none) : meM mn tbl (.ref n) S = (m [.ref n] S).nox := by
  simp only [meM, rdIns_at h, hm, hf]
theorem isoM_at {S : Sto} {n : Nat} {c : String} {fs : List (String × V)} {tbl : List (String × Bool)} {b : Bool} (h : S[n]? = some (.ins c fs)) (hb : tbl.lookup c = some b) : isoM tbl (.ref n) S = .ok (.bl b) S := by
  simp only [isoM, rdIns_at h, hb]
theorem lenStM_at {S : Sto} {x : V} {ns : List Int} (h : rdL x S = some (ns.map V.int)) (hl : ns.length ≤ 4000) : lenStM x S = .ok (.int (distinct ns : Nat)) S := by
  simp only [lenStM, rdI_of h, hl, if_true]
theorem insertM_at {S : Sto} {n : Nat} {xs : List V} {i : Int} {y : V} (h : S[n]? = some (.lst xs)) (hi : 0 ≤ i ∧ i ≤ 16777216) (hl : xs.length < 16777216) : insertM (.ref n) [.int i, y] S = .ok .non (S.set n (.lst (xs.take i.toNat ++ [y] ++ xs.drop i.toNat))) := by
  simp only [insertM, chL, h, hi, lim, hl, and_self, if_true]
/-- pairs of ints, told in tuples -/
def TpI (S : Sto) (F : List (Nat × Int × Int)) : Prop := ∀ p ∈ F, S[p.1]? = some (.tup [.int p.2.1, .int p.2.2])
theorem TpI.up {S S' : Sto} {F : List (Nat × Int × Int)} (h : TpI S F) (u : Up [] S S') : TpI S' F := fun p hp => u.get (h p hp)
theorem putT_ints : ∀ {xs ys : List Int} {acc : List V} {S : Sto}, ∃ (F : List (Nat × Int × Int)) (S' : Sto), putT ((xs.map V.int).zip (ys.map V.int)) acc S = .ok (acc ++ F.map fun p => V.ref p.1) S' ∧ Up [] S S' ∧ F.map Prod.snd = xs.zip ys ∧ TpI S' F
  | [], ys, acc, S => ⟨[], S, by simp [putT], Up.refl _ _, rfl, fun _ h => nomatch h⟩
  | x :: xs, [], acc, S => ⟨[], S, by simp [putT], Up.refl _ _, rfl, fun _ h => nomatch h⟩
  | x :: xs, y :: ys, acc, S => by
    have u := Up.app [] S [.tup [.int x, .int y]]
    have q := snew S (.tup [.int x, .int y])
    obtain ⟨F, S', e, p, hF, hT⟩ := putT_ints (xs := xs) (ys := ys) (acc := acc ++ [.ref S.length]) (S := S ++ [.tup [.int x, .int y]])
    refine ⟨(S.length, x, y) :: F, S', ?_, u.trans p, by rw [List.map_cons, hF]; rfl, fun r hr => ?_⟩
    · rw [List.map_cons, List.map_cons, List.zip_cons_cons, putT, e, List.append_assoc]; rfl
    · rcases List.mem_cons.mp hr with rfl | hr
      · exact p.get q
      · exact hT r hr
theorem zipM_ints {S : Sto} {v w : V} {xs ys : List Int} (h1 : rdL v S = some (xs.map V.int)) (h2 : rdL w S = some (ys.map V.int)) (hl : xs.length ≤ 1000) :
    ∃ (F : List (Nat × Int × Int)) (S' : Sto) (q : Nat), zipM [v, w] S = .ok (.ref q) S' ∧ Up [] S S' ∧ F.map Prod.snd = xs.zip ys ∧ S'[q]? = some (.lst (F.map fun p => V.ref p.1)) ∧ TpI S' F := by
  obtain ⟨F, S', e, p, hF, hT⟩ := putT_ints (xs := xs) (ys := ys) (acc := []) (S := S)
  have u := Up.app [] S' [.lst (F.map fun p => V.ref p.1)]
  have hlen : F.length = (xs.zip ys).length := by rw [← hF, List.length_map]
  have hz : (F.map fun p => V.ref p.1).length ≤ lim := by rw [List.length_map, hlen, List.length_zip]; unfold lim; omega
  refine ⟨F, S' ++ [.lst (F.map fun p => V.ref p.1)], S'.length, ?_, p.trans u, hF, snew _ _, hT.up u⟩
  simp only [zipM, h1, h2, e, List.nil_append, R.bind, zipK, hz, if_true, Fx.alloc]
/-- an f-string of three parts -/
theorem eJ3_at {m1 m2 m3 : St → Sto → R V} {σ : St} {S S1 S2 S3 : Sto} {a b c : Str} (h1 : m1 σ S = .ok (.str a) S1) (h2 : m2 σ S1 = .ok (.str b) S2) (h3 : m3 σ S2 = .ok (.str c) S3) (hl : a.length + b.length + c.length ≤ 10000) : eJ3 m1 m2 m3 σ S = .ok (.str (a ++ b ++ c)) S3 := by
  have e0 : (Str.empty ++ a).length = a.length := by rw [Str.length_append]; simp [Str.empty, Str.length]
  have e1 : Str.empty ++ a = a := PySem.Str.empty_append a
  unfold eJ3
  rw [h1]
  show ((jnM Str.empty (.str a) S1).bind fun a S2 => _) = _
  have j1 : jnM Str.empty (.str a) S1 = .ok a S1 := by
    unfold jnM; dsimp only; rw [if_pos (by rw [e0]; unfold lim; omega), e1]
  rw [j1]
  show ((m2 σ S1).bind _) = _
  rw [h2]
  have j2 : jnM a (.str b) S2 = .ok (a ++ b) S2 := by
    unfold jnM; dsimp only; rw [if_pos (by rw [Str.length_append]; unfold lim; omega)]
  show ((jnM a (.str b) S2).bind _) = _
  rw [j2]
  show ((m3 σ S2).bind _) = _
  rw [h3]
  have j3 : jnM (a ++ b) (.str c) S3 = .ok (a ++ b ++ c) S3 := by
    unfold jnM; dsimp only; rw [if_pos (by rw [Str.length_append, Str.length_append]; unfold lim; omega)]
  show ((jnM (a ++ b) (.str c) S3).bind _) = _
  rw [j3]; rfl
theorem fmt_int {i : Int} (h : i.natAbs.log2 < 1920) (S : Sto) : fmtM (.int i) S = .ok (.str (toString i)) S := by
  unfold fmtM; dsimp only; rw [if_pos h]
end Fx
/-! Fx: comprehensions whose step raises, for simp. -/
namespace Fx
open PySem L2
section
variable {σ : St} {S : Sto}
def kCx2 (r : R (List V)) : R V := match r with
  | .ok ys S => .ok (.ref S.length) (S ++ [.lst ys])
  | .exc c S => .exc c S
  | .bad => .bad
theorem kCx2_ok (ys : List V) (S : Sto) : kCx2 (.ok ys S) = .ok (.ref S.length) (S ++ [.lst ys]) := rfl
theorem kCx2_exc (c : String) (S : Sto) : kCx2 (.exc c S) = .exc c S := rfl
def kCx1 (r : R AI) (g : Itm → St → Sto → R St) (tt : St → Sto → R Bool) (te : St → Sto → R V) (own : List Nat) (σ : St) : R V := match r with
  | .ok a S => kCx2 (compX a.2 g tt te a.1 (wipe σ own) S)
  | .exc c S => .exc c S
  | .bad => .bad
theorem kCx1_ok (items : List Itm) (chk : Sto → Bool) (S : Sto) (g : Itm → St → Sto → R St) (tt : St → Sto → R Bool) (te : St → Sto → R V) (own : List Nat) (σ : St) : kCx1 (.ok (items, chk) S) g tt te own σ = kCx2 (compX chk g tt te items (wipe σ own) S) := rfl
theorem kCx1_exc (c : String) (S : Sto) (g : Itm → St → Sto → R St) (tt : St → Sto → R Bool) (te : St → Sto → R V) (own : List Nat) (σ : St) : kCx1 (.exc c S) g tt te own σ = .exc c S := rfl
theorem eCompX_eq (mi : St → Sto → R AI) (g : Itm → St → Sto → R St) (tt : St → Sto → R Bool) (te : St → Sto → R V) (own : List Nat) : eCompX mi g tt te own σ S = kCx1 (mi σ S) g tt te own σ := by
  unfold eCompX kCx1 kCx2 R.bind
  cases mi σ S with
  | ok a S1 => dsimp only; cases compX a.2 g tt te a.1 (wipe σ own) S1 <;> rfl
  | _ => rfl
end
def exJP := And.intro @eCompX_eq (And.intro @kCx1_ok (And.intro @kCx1_exc (And.intro @kCx2_ok @kCx2_exc)))
theorem exJ : type_of% exJP := exJP
end Fx
namespace Lw
open PySem L2 Fx

noncomputable def t_shared_with_1 : St → Sto → R Bool :=
  (tV (eO gtM (eO modM (eV 2) (eV 0)) (eC (.int 0))))
noncomputable def b_shared_with_1 : St → Sto → R Fl :=
  (sPar 0 2 (aCons (eO modM (eV 2) (eV 0)) (aCons (eV 0) aNil)))
noncomputable def c_shared_with : St → Sto → R Fl :=
  (sSq (sSet 2 (eA absM (aCons (eV 1) aNil)))
    (sSq (sWh t_shared_with_1 [] b_shared_with_1)
    (sRet (eV 0))))
noncomputable def r_shared_with : List V → Sto → R V := runF 3 c_shared_with
theorem r_shared_with_eq (a0 a1 : V) (S : Sto) : r_shared_with [a0, a1] S = finF (c_shared_with [some a0, some a1, none] S) := Eq.trans rfl rfl
noncomputable def b_read_figures_1 : St → Sto → R Fl :=
  (sIf (tV (eO (inSM true) (eV 1) (eC (.str (PySem.Str.ofString "0123456789")))))
    (sRs "NoText")
    sNx)
noncomputable def c_read_figures : St → Sto → R Fl :=
  (sSq (sIf (tO (tV (eO eqM (eV 0) (eC (.str (PySem.Str.ofString ""))))) (tO (tV (eO gtM (eA lenM (aCons (eV 0) aNil)) (eC (.int 30)))) (tAn (tV (eO gtM (eA lenM (aCons (eV 0) aNil)) (eC (.int 1)))) (tV (eO eqM (eO ixM (eV 0) (eC (.int 0))) (eC (.str (PySem.Str.ofString "0"))))))))
    (sRs "NoText")
    sNx)
    (sSq (sFor (iS (eV 0)) (gI1 1) [1] b_read_figures_1)
    (sRet (eA intSM (aCons (eV 0) aNil)))))
noncomputable def r_read_figures : List V → Sto → R V := runF 2 c_read_figures
theorem r_read_figures_eq (a0 : V) (S : Sto) : r_read_figures [a0] S = finF (c_read_figures [some a0, none] S) := Eq.trans rfl rfl
noncomputable def c_read_fraction : St → Sto → R Fl :=
  (sSq (sSet 1 (eC (.int 1)))
    (sSq (sIf (tV (eM isSt startsM (eV 0) (aCons (eC (.str (PySem.Str.ofString "-"))) aNil)))
    (sSq (sSet 1 (eU negM (eC (.int 1))))
    (sSet 0 (eSl (eV 0) (some (eC (.int 1))) none)))
    sNx)
    (sSq (sAs (gU [2, 3, 4]) (eM isSt partM (eV 0) (aCons (eC (.str (PySem.Str.ofString "/"))) aNil)))
    (sSq (sIf (tAn (tV (eO eqM (eV 1) (eU negM (eC (.int 1))))) (tV (eO eqM (eV 2) (eC (.str (PySem.Str.ofString "0"))))))
    (sRs "NoText")
    sNx)
    (sSq (sIf (tV (eO eqM (eV 3) (eC (.str (PySem.Str.ofString "")))))
    (sRet (eTup (aCons (eO mulM (eV 1) (eCl 1 r_read_figures (aCons (eV 2) aNil))) (aCons (eC (.int 1)) aNil))))
    sNx)
    (sSq (sSet 5 (eTup (aCons (eO mulM (eV 1) (eCl 1 r_read_figures (aCons (eV 2) aNil))) (aCons (eCl 1 r_read_figures (aCons (eV 4) aNil)) aNil))))
    (sSq (sIf (tO (tV (eO ltM (eO ixM (eV 5) (eC (.int 1))) (eC (.int 2)))) (tV (eO neM (eCl 2 r_shared_with (aCons (eO ixM (eV 5) (eC (.int 1))) (aCons (eO ixM (eV 5) (eC (.int 0))) aNil))) (eC (.int 1)))))
    (sRs "NoText")
    sNx)
    (sRet (eV 5)))))))))
noncomputable def r_read_fraction : List V → Sto → R V := runF 6 c_read_fraction
theorem r_read_fraction_eq (a0 : V) (S : Sto) : r_read_fraction [a0] S = finF (c_read_fraction [some a0, none, none, none, none, none] S) := Eq.trans rfl rfl
noncomputable def e_read_row_1 : St → Sto → R V :=
  (eCl 1 r_read_fraction (aCons (eV 2) aNil))
noncomputable def c_read_row : St → Sto → R Fl :=
  (sSq (sSet 1 (eCompX (iL (eM isSt splitM (eV 0) (aCons (eC (.str (PySem.Str.ofString " "))) aNil))) (gI1 2) tYs e_read_row_1 [2]))
    (sSq (sIf (tV (eO gtM (eA lenM (aCons (eV 1) aNil)) (eC (.int 8))))
    (sRs "NoText")
    sNx)
    (sRet (eV 1))))
noncomputable def r_read_row : List V → Sto → R V := runF 3 c_read_row
theorem r_read_row_eq (a0 : V) (S : Sto) : r_read_row [a0] S = finF (c_read_row [some a0, none, none] S) := Eq.trans rfl rfl
noncomputable def e_read_table_1 : St → Sto → R V :=
  (eCl 1 r_read_row (aCons (eV 2) aNil))
noncomputable def b_read_table_1 : St → Sto → R Fl :=
  (sSet 3 (eO fdivM (eO mulM (eV 3) (eV 6)) (eCl 2 r_shared_with (aCons (eV 3) (aCons (eV 6) aNil)))))
noncomputable def b_read_table_2 : St → Sto → R Fl :=
  (sSq (sIf (tV (eO neM (eA lenM (aCons (eV 4) aNil)) (eA lenM (aCons (eO ixM (eV 1) (eC (.int 0))) aNil))))
    (sRs "NoText")
    sNx)
    (sFor (iL (eV 4)) (gIT [5, 6]) [5, 6] b_read_table_1))
noncomputable def e_read_table_2 : St → Sto → R V :=
  (eO mulM (eV 5) (eO fdivM (eV 3) (eV 6)))
noncomputable def e_read_table_3 : St → Sto → R V :=
  (eComp (iL (eV 4)) (gIT [5, 6]) tYs e_read_table_2 [5, 6])
noncomputable def c_read_table : St → Sto → R Fl :=
  (sSq (sIf (tN (tV (eA isiM (aCons (eV 0) (aCons (eC (.ty "str")) aNil)))))
    (sRs "NoText")
    sNx)
    (sSq (sSet 1 (eCompX (iL (eM isSt splitM (eV 0) (aCons (eC (.str (PySem.Str.ofString "; "))) aNil))) (gI1 2) tYs e_read_table_1 [2]))
    (sSq (sIf (tV (eO gtM (eA lenM (aCons (eV 1) aNil)) (eC (.int 8))))
    (sRs "NoText")
    sNx)
    (sSq (sSet 3 (eC (.int 1)))
    (sSq (sFor (iL (eV 1)) (gI1 4) [4, 5, 6] b_read_table_2)
    (sRet (eTup (aCons (eComp (iL (eV 1)) (gI1 4) tYs e_read_table_3 [4]) (aCons (eV 3) aNil)))))))))
noncomputable def r_read_table : List V → Sto → R V := runF 7 c_read_table
theorem r_read_table_eq (a0 : V) (S : Sto) : r_read_table [a0] S = finF (c_read_table [some a0, none, none, none, none, none, none] S) := Eq.trans rfl rfl
noncomputable def b__law_mixed_1 : St → Sto → R Fl :=
  (sSet 1 (eO modM (eO addM (eO mulM (eV 1) (eC (.int 69621))) (eV 2)) (eO addM (eO powM (eC (.int 10)) (eC (.int 36))) (eC (.int 67)))))
noncomputable def c__law_mixed : St → Sto → R Fl :=
  (sSq (sFor (iL (eV 0)) (gI1 2) [2] b__law_mixed_1)
    (sRet (eV 1)))
noncomputable def r__law_mixed : List V → Sto → R V := runF 3 c__law_mixed
theorem r__law_mixed_eq (a0 a1 : V) (S : Sto) : r__law_mixed [a0, a1] S = finF (c__law_mixed [some a0, some a1, none] S) := Eq.trans rfl rfl
noncomputable def t__law_shared_1 : St → Sto → R Bool :=
  (tV (eO neM (eV 1) (eC (.int 0))))
noncomputable def b__law_shared_1 : St → Sto → R Fl :=
  (sPar 0 1 (aCons (eV 1) (aCons (eO modM (eV 0) (eV 1)) aNil)))
noncomputable def c__law_shared : St → Sto → R Fl :=
  (sSq (sWh t__law_shared_1 [] b__law_shared_1)
    (sRet (eA absM (aCons (eV 0) aNil))))
noncomputable def r__law_shared : List V → Sto → R V := runF 2 c__law_shared
theorem r__law_shared_eq (a0 a1 : V) (S : Sto) : r__law_shared [a0, a1] S = finF (c__law_shared [some a0, some a1] S) := Eq.trans rfl rfl
noncomputable def b__law_written_1 : St → Sto → R Fl :=
  (sSq (sSet 1 (eO modM (eO addM (eO mulM (eV 1) (eC (.int 48271))) (eC (.int 11))) (eO addM (eO powM (eC (.int 10)) (eC (.int 36))) (eC (.int 67)))))
    (sSq (sSet 7 (eO subM (eO modM (eO fdivM (eV 1) (eC (.int 97))) (eC (.int 41))) (eC (.int 20))))
    (sSq (sSet 8 (eO ixM (eLst (aCons (eC (.int 1)) (aCons (eC (.int 2)) (aCons (eC (.int 3)) (aCons (eC (.int 7)) aNil))))) (eO modM (eO fdivM (eV 1) (eC (.int 8191))) (eC (.int 4)))))
    (sSq (sIf (tV (eO neM (eCl 2 r__law_shared (aCons (eV 7) (aCons (eV 8) aNil))) (eC (.int 1))))
    (sSet 8 (eC (.int 1)))
    sNx)
    (sEx (eM isLs appM (eV 5) (aCons (eO addM (eA textM (aCons (eV 7) aNil)) (eO ixM (eLst (aCons (eC (.str (PySem.Str.ofString ""))) (aCons (eO addM (eC (.str (PySem.Str.ofString "/"))) (eA textM (aCons (eV 8) aNil))) aNil))) (eA intM (aCons (eO gtM (eV 8) (eC (.int 1))) aNil)))) aNil)))))))
noncomputable def b__law_written_2 : St → Sto → R Fl :=
  (sSq (sSet 5 (eLst aNil))
    (sSq (sFor (iR1 (aCons (eV 2) aNil)) (gI1 6) [6, 7, 8] b__law_written_1)
    (sEx (eM isLs appM (eV 3) (aCons (eM isSt joinM (eC (.str (PySem.Str.ofString " "))) (aCons (eV 5) aNil)) aNil)))))
noncomputable def c__law_written : St → Sto → R Fl :=
  (sSq (sSet 1 (eCl 2 r__law_mixed (aCons (eV 0) (aCons (eC (.int 13)) aNil))))
    (sSq (sSet 2 (eO addM (eC (.int 1)) (eO modM (eO fdivM (eV 1) (eC (.int 3))) (eC (.int 3)))))
    (sSq (sSet 3 (eLst aNil))
    (sSq (sFor (iR1 (aCons (eO addM (eC (.int 1)) (eO modM (eV 1) (eC (.int 3)))) aNil)) (gI1 4) [4, 5, 6, 7, 8] b__law_written_2)
    (sRet (eM isSt joinM (eC (.str (PySem.Str.ofString "; "))) (aCons (eV 3) aNil)))))))
noncomputable def r__law_written : List V → Sto → R V := runF 9 c__law_written
theorem r__law_written_eq (a0 : V) (S : Sto) : r__law_written [a0] S = finF (c__law_written [some a0, none, none, none, none, none, none, none, none] S) := Eq.trans rfl rfl
noncomputable def b__law_spoiled_1 : St → Sto → R Fl :=
  (sSq (sSet 3 (eO modM (eO mulM (eO modM (eV 2) (eC (.int 2147483647))) (eC (.int 48271))) (eC (.int 2147483647))))
    (sSq (sSet 4 (eO ixM (eC (.str (PySem.Str.ofString "0123/- ;9+.a1 -
	_"))) (eO modM (eO fdivM (eV 3) (eC (.int 4))) (eC (.int 18)))))
    (sSq (sSet 5 (eO modM (eO fdivM (eV 3) (eC (.int 64))) (eO addM (eA lenM (aCons (eV 0) aNil)) (eC (.int 1)))))
    (sIf (tV (eO eqM (eO modM (eV 3) (eC (.int 4))) (eC (.int 0))))
    (sSet 0 (eO addM (eO addM (eSl (eV 0) none (some (eV 5))) (eV 4)) (eSl (eV 0) (some (eV 5)) none)))
    (sIf (tV (eO eqM (eO modM (eV 3) (eC (.int 4))) (eC (.int 1))))
    (sSet 0 (eO addM (eSl (eV 0) none (some (eV 5))) (eSl (eV 0) (some (eO addM (eV 5) (eC (.int 1)))) none)))
    (sIf (tV (eO eqM (eO modM (eV 3) (eC (.int 4))) (eC (.int 2))))
    (sSet 0 (eO addM (eO addM (eSl (eV 0) none (some (eV 5))) (eV 4)) (eSl (eV 0) (some (eO addM (eV 5) (eC (.int 1)))) none)))
    sNx))))))
noncomputable def c__law_spoiled : St → Sto → R Fl :=
  (sSq (sFor (iL (eSl (eV 1) none (some (eC (.int 6))))) (gI1 2) [2, 3, 4, 5] b__law_spoiled_1)
    (sRet (eV 0)))
noncomputable def r__law_spoiled : List V → Sto → R V := runF 6 c__law_spoiled
theorem r__law_spoiled_eq (a0 a1 : V) (S : Sto) : r__law_spoiled [a0, a1] S = finF (c__law_spoiled [some a0, some a1, none, none, none, none] S) := Eq.trans rfl rfl
noncomputable def c__law_odd : St → Sto → R Fl :=
  (sSq (sSet 1 (eLst (aCons (eC (.str (PySem.Str.ofString ""))) (aCons (eC (.str (PySem.Str.ofString " "))) (aCons (eC (.str (PySem.Str.ofString "1 "))) (aCons (eC (.str (PySem.Str.ofString " 1"))) (aCons (eC (.str (PySem.Str.ofString "1;"))) (aCons (eC (.str (PySem.Str.ofString "1; "))) (aCons (eC (.str (PySem.Str.ofString "; 1"))) (aCons (eC (.str (PySem.Str.ofString "1;2"))) (aCons (eC (.str (PySem.Str.ofString "1 ; 2"))) (aCons (eC (.str (PySem.Str.ofString "1  2"))) (aCons (eC (.str (PySem.Str.ofString "2/4"))) (aCons (eC (.str (PySem.Str.ofString "3/1"))) (aCons (eC (.str (PySem.Str.ofString "0/5"))) (aCons (eC (.str (PySem.Str.ofString "+1"))) (aCons (eC (.str (PySem.Str.ofString "-0"))) (aCons (eC (.str (PySem.Str.ofString "01"))) aNil))))))))))))))))))
    (sSq (sSet 1 (eO addM (eV 1) (eLst (aCons (eC (.str (PySem.Str.ofString "1
2"))) (aCons (eC (.str (PySem.Str.ofString "1 2;
3 4"))) (aCons (eC (.str (PySem.Str.ofString "1_0"))) (aCons (eC (.str (PySem.Str.ofString "1	2"))) aNil)))))))
    (sSq (sSet 1 (eO addM (eV 1) (eLst (aCons (eC (.str (PySem.Str.ofString "1//2"))) (aCons (eC (.str (PySem.Str.ofString "1/-2"))) (aCons (eC (.str (PySem.Str.ofString "1/0"))) (aCons (eC (.str (PySem.Str.ofString "-"))) (aCons (eC (.str (PySem.Str.ofString "/2"))) (aCons (eC (.str (PySem.Str.ofString "1; 1 2"))) (aCons (eC .non) (aCons (eC (.int 3)) (aCons (eLst (aCons (eC (.str (PySem.Str.ofString "1"))) aNil)) (aCons (eC (.str (PySem.Str.ofString "-0/2"))) aNil)))))))))))))
    (sSq (sSet 1 (eO addM (eV 1) (eLst (aCons (eO addM (eO addM (eO addM (eO mulSM (eC (.str (PySem.Str.ofString "9"))) (eC (.int 30))) (eC (.str (PySem.Str.ofString "/")))) (eO mulSM (eC (.str (PySem.Str.ofString "9"))) (eC (.int 29)))) (eC (.str (PySem.Str.ofString "8")))) (aCons (eO mulSM (eC (.str (PySem.Str.ofString "9"))) (eC (.int 31))) (aCons (eO addM (eC (.str (PySem.Str.ofString "1/1"))) (eO mulSM (eC (.str (PySem.Str.ofString "0"))) (eC (.int 30)))) aNil))))))
    (sSq (sSet 1 (eO addM (eV 1) (eLst (aCons (eM isSt joinM (eC (.str (PySem.Str.ofString " "))) (aCons (eO mulM (eLst (aCons (eC (.str (PySem.Str.ofString "1"))) aNil)) (eC (.int 9))) aNil)) (aCons (eM isSt joinM (eC (.str (PySem.Str.ofString "; "))) (aCons (eO mulM (eLst (aCons (eC (.str (PySem.Str.ofString "1/2"))) aNil)) (eC (.int 9))) aNil)) (aCons (eM isSt joinM (eC (.str (PySem.Str.ofString "; "))) (aCons (eO mulM (eLst (aCons (eC (.str (PySem.Str.ofString "1 2 3 4 5 6 7 8"))) aNil)) (eC (.int 8))) aNil)) aNil))))))
    (sRet (eO ixM (eV 1) (eO modM (eV 0) (eA lenM (aCons (eV 1) aNil))))))))))
noncomputable def r__law_odd : List V → Sto → R V := runF 2 c__law_odd
theorem r__law_odd_eq (a0 : V) (S : Sto) : r__law_odd [a0] S = finF (c__law_odd [some a0, none] S) := Eq.trans rfl rfl
noncomputable def p__law_number_1 : St → Sto → R Bool :=
  (tV (eO (inSM false) (eV 1) (eC (.str (PySem.Str.ofString "0123456789")))))
noncomputable def c__law_number : St → Sto → R Fl :=
  (sSq (sIf (tO (tV (eO eqM (eV 0) (eC (.str (PySem.Str.ofString ""))))) (tO (tV (eO gtM (eA lenM (aCons (eV 0) aNil)) (eC (.int 30)))) (tAn (tV (eO gtM (eA lenM (aCons (eV 0) aNil)) (eC (.int 1)))) (tV (eO eqM (eO ixM (eV 0) (eC (.int 0))) (eC (.str (PySem.Str.ofString "0"))))))))
    (sRet (eC .non))
    sNx)
    (sSq (sIf (tV (eO neM (eA lenM (aCons (eComp (iS (eV 0)) (gI1 1) p__law_number_1 (eV 1) [1]) aNil)) (eA lenM (aCons (eV 0) aNil))))
    (sRet (eC .non))
    sNx)
    (sRet (eA intSM (aCons (eV 0) aNil)))))
noncomputable def r__law_number : List V → Sto → R V := runF 2 c__law_number
theorem r__law_number_eq (a0 : V) (S : Sto) : r__law_number [a0] S = finF (c__law_number [some a0, none] S) := Eq.trans rfl rfl
noncomputable def c__law_fraction : St → Sto → R Fl :=
  (sSq (sIf (tV (eO eqM (eSl (eV 0) none (some (eC (.int 2)))) (eC (.str (PySem.Str.ofString "-0")))))
    (sRet (eC .non))
    sNx)
    (sSq (sAs (gU [1, 2, 3]) (eM isSt partM (eSl (eV 0) (some (eA intM (aCons (eO eqM (eSl (eV 0) none (some (eC (.int 1)))) (eC (.str (PySem.Str.ofString "-")))) aNil))) none) (aCons (eC (.str (PySem.Str.ofString "/"))) aNil)))
    (sSq (sIf (tV (eO eqM (eV 2) (eC (.str (PySem.Str.ofString "")))))
    (sSet 3 (eC (.str (PySem.Str.ofString "1"))))
    sNx)
    (sSq (sSet 4 (eLst (aCons (eCl 1 r__law_number (aCons (eV 1) aNil)) (aCons (eCl 1 r__law_number (aCons (eV 3) aNil)) aNil))))
    (sSq (sIf (tO (tV (eO (inM false) (eC .non) (eV 4))) (tAn (tV (eO neM (eV 2) (eC (.str (PySem.Str.ofString ""))))) (tO (tV (eO ltM (eO ixM (eV 4) (eC (.int 1))) (eC (.int 2)))) (tV (eO neM (eCl 2 r__law_shared (aCons (eO ixM (eV 4) (eC (.int 0))) (aCons (eO ixM (eV 4) (eC (.int 1))) aNil))) (eC (.int 1)))))))
    (sRet (eC .non))
    sNx)
    (sRet (eTup (aCons (eO mulM (eO ixM (eV 4) (eC (.int 0))) (eO subM (eC (.int 1)) (eO mulM (eC (.int 2)) (eA intM (aCons (eO eqM (eSl (eV 0) none (some (eC (.int 1)))) (eC (.str (PySem.Str.ofString "-")))) aNil))))) (aCons (eO ixM (eV 4) (eC (.int 1))) aNil)))))))))
noncomputable def r__law_fraction : List V → Sto → R V := runF 5 c__law_fraction
theorem r__law_fraction_eq (a0 : V) (S : Sto) : r__law_fraction [a0] S = finF (c__law_fraction [some a0, none, none, none, none] S) := Eq.trans rfl rfl
noncomputable def e__law_due_1 : St → Sto → R V :=
  (eCl 1 r__law_fraction (aCons (eV 2) aNil))
noncomputable def e__law_due_2 : St → Sto → R V :=
  (eComp (iL (eM isSt splitM (eV 3) (aCons (eC (.str (PySem.Str.ofString " "))) aNil))) (gI1 2) tYs e__law_due_1 [2])
noncomputable def b__law_due_1 : St → Sto → R Fl :=
  (sSet 4 (eO mulM (eO fdivM (eV 4) (eCl 2 r__law_shared (aCons (eV 4) (aCons (eV 6) aNil)))) (eV 6)))
noncomputable def b__law_due_2 : St → Sto → R Fl :=
  (sSq (sIf (tO (tV (eO (inDM false) (eC .non) (eV 3))) (tO (tV (eO neM (eA lenM (aCons (eV 3) aNil)) (eA lenM (aCons (eO ixM (eV 1) (eC (.int 0))) aNil)))) (tO (tV (eO gtM (eA lenM (aCons (eV 3) aNil)) (eC (.int 8)))) (tV (eO gtM (eA lenM (aCons (eV 1) aNil)) (eC (.int 8)))))))
    (sRet (eC .non))
    sNx)
    (sFor (iL (eV 3)) (gIT [5, 6]) [5, 6] b__law_due_1))
noncomputable def e__law_due_3 : St → Sto → R V :=
  (eO mulM (eV 5) (eO fdivM (eV 4) (eV 6)))
noncomputable def e__law_due_4 : St → Sto → R V :=
  (eComp (iL (eV 3)) (gIT [5, 6]) tYs e__law_due_3 [5, 6])
noncomputable def c__law_due : St → Sto → R Fl :=
  (sSq (sIf (tN (tV (eA isiM (aCons (eV 0) (aCons (eC (.ty "str")) aNil)))))
    (sRet (eC .non))
    sNx)
    (sSq (sSet 1 (eComp (iL (eM isSt splitM (eV 0) (aCons (eC (.str (PySem.Str.ofString "; "))) aNil))) (gI1 3) tYs e__law_due_2 [3]))
    (sSq (sSet 4 (eC (.int 1)))
    (sSq (sFor (iL (eV 1)) (gI1 3) [3, 5, 6] b__law_due_2)
    (sRet (eTup (aCons (eComp (iL (eV 1)) (gI1 3) tYs e__law_due_4 [3]) (aCons (eV 4) aNil))))))))
noncomputable def r__law_due : List V → Sto → R V := runF 7 c__law_due
theorem r__law_due_eq (a0 : V) (S : Sto) : r__law_due [a0] S = finF (c__law_due [some a0, none, none, none, none, none, none] S) := Eq.trans rfl rfl
noncomputable def u__law_asked_1 : String → St → St :=
  (uSeq (uAdd 3 1 (fun c => if fAny ["NoNumber", "NoTable", "NotAlike", "NoStep", "NoMix", "NotEven"] c = true then false else !fAny ["NoSwap", "NoBounds", "NoPlace", "NoSums", "NoBottom", "TooGreat"] c)) uNil)
noncomputable def u__law_asked_2 : String → St → St :=
  (uSeq (uMul 3 3 fYes) uNil)
noncomputable def c__law_asked : St → Sto → R Fl :=
  (sSq (sSet 1 (eCl 1 r__law_due (aCons (eV 0) aNil)))
    (sSq (sIf (tV (eO notNM (eV 1) (eC .non)))
    (sSq (sSet 2 (eCl 1 r_read_table (aCons (eV 0) aNil)))
    (sRet (eAn (eA isiM (aCons (eV 2) (aCons (eC (.ty "tuple")) aNil))) (eO eqM (eV 2) (eV 1)))))
    sNx)
    (sSq (sSet 3 (eC (.int 0)))
    (sSq (sTryA ["NoText"] "NoText" 4
    (sEx (eCl 1 r_read_table (aCons (eV 0) aNil)))
    u__law_asked_1)
    (sSq (sIf (tV (eO neM (eV 3) (eC (.int 2))))
    (sRet (eC (.bl false)))
    sNx)
    (sSq (sTryA ["NoText"] "MixError" 4
    (sEx (eCl 1 r_read_table (aCons (eV 0) aNil)))
    u__law_asked_2)
    (sRet (eO eqM (eV 3) (eC (.int 3))))))))))
noncomputable def r__law_asked : List V → Sto → R V := runF 5 c__law_asked
theorem r__law_asked_eq (a0 : V) (S : Sto) : r__law_asked [a0] S = finF (c__law_asked [some a0, none, none, none, none] S) := Eq.trans rfl rfl
noncomputable def c_law : St → Sto → R Fl :=
  (sSq (sSet 1 (eCl 1 r__law_written (aCons (eV 0) aNil)))
    (sSq (sIf (tO (tN (tV (eCl 1 r__law_asked (aCons (eV 1) aNil)))) (tN (tV (eCl 1 r__law_asked (aCons (eCl 2 r__law_spoiled (aCons (eV 1) (aCons (eV 0) aNil))) aNil)))))
    (sRet (eC (.bl false)))
    sNx)
    (sRet (eAn (eCl 1 r__law_asked (aCons (eCl 1 r__law_odd (aCons (eO fdivM (eCl 2 r__law_mixed (aCons (eV 0) (aCons (eC (.int 17)) aNil))) (eC (.int 64))) aNil)) aNil)) (eCl 1 r__law_asked (aCons (eV 1) aNil))))))
noncomputable def r_law : List V → Sto → R V := runF 2 c_law
theorem r_law_eq (a0 : V) (S : Sto) : r_law [a0] S = finF (c_law [some a0, none] S) := Eq.trans rfl rfl
end Lw
namespace Lw
open PySem L2 Fx
/-! texts cut at a separator and glued again -/
section
open PySem.StrLaws PySem.Builtin PySem.Builtin.Str
def cov (w : Nat) (cs : List Nat) (i : Nat) : Prop := ∃ c ∈ cs, c ≤ i ∧ i < c + w
theorem occ_all (s sub : Str) (hi limit : Nat) (hw : 0 < sub.length) : ∀ (l : List Nat) (st : Array Nat × Nat), l.Pairwise (· < ·) → st.1.size + l.length ≤ limit → (∀ i ∈ l, i < st.2 → cov sub.length st.1.toList i) →
    (∀ c ∈ st.1.toList, c ∈ (forIn l st (occBody s sub hi limit)).run.fst.toList) ∧ ∀ i ∈ l, At s sub hi i → cov sub.length (forIn l st (occBody s sub hi limit)).run.fst.toList i
  | [], st, _, _, _ => ⟨fun _ h => h, fun _ h => nomatch h⟩
  | a :: l, st, hp, hl, hc => by
    obtain ⟨h1, h2⟩ := List.pairwise_cons.mp hp
    rw [List.length_cons] at hl
    rw [List.forIn_cons]
    unfold occBody
    split
    · rename_i hcond
      obtain ⟨k1, k2⟩ := occ_all s sub hi limit hw l (st.1.push a, a + sub.length) h2 (by simp; omega) (fun i hi hlt => ⟨a, by simp, Nat.le_of_lt (h1 i hi), hlt⟩)
      refine ⟨fun c hcm => k1 c (by simp [hcm]), fun i hi hat => ?_⟩
      rcases List.mem_cons.mp hi with rfl | hi
      · exact ⟨i, k1 i (by simp), Nat.le_refl _, by omega⟩
      · exact k2 i hi hat
    · rename_i hcond
      obtain ⟨k1, k2⟩ := occ_all s sub hi limit hw l (st.1, st.2) h2 (by simp; omega) (fun i hi => hc i (List.mem_cons_of_mem _ hi))
      refine ⟨k1, fun i hi hat => ?_⟩
      rcases List.mem_cons.mp hi with rfl | hi
      · by_cases hf : st.2 ≤ i
        · exact (hcond ⟨⟨⟨by omega, hf⟩, hat.1⟩, hat.2⟩).elim
        · obtain ⟨c, hcm, hc1, hc2⟩ := hc i List.mem_cons_self (by omega)
          exact ⟨c, k1 c hcm, hc1, hc2⟩
      · exact k2 i hi hat
theorem occ_cov (x y : Str) (hw : 0 < y.length) {i : Nat} (h : At x y x.length i) : cov y.length (occurrences x y 0 x.length (x.length + 1)) i := by
  rw [occ_eq]
  refine (occ_all x y x.length (x.length + 1) hw (List.range' 0 (x.length + 1 - 0)) (#[], 0) List.pairwise_lt_range' (by simp) (fun i _ h => nomatch h)).2 i ?_ h
  have := h.1
  rw [List.mem_range'_1]
  omega
theorem chain_ge {s sub : Str} {hi : Nat} : ∀ {a : Nat} {cuts : List Nat} {f : Nat}, ChainTo s sub hi a cuts f → ∀ c ∈ cuts, a ≤ c
  | _, [], _, _, _, h => nomatch h
  | a, c :: r, f, h, d, hd => by
    rcases List.mem_cons.mp hd with rfl | hd
    · exact h.1
    · have := chain_ge h.2.2 d hd
      have := h.1
      omega
theorem parts_free (x : Str) {y : Str} {hi : Nat} : ∀ {a : Nat} {cuts : List Nat} {f : Nat}, ChainTo x y hi a cuts f → ∀ p ∈ partsFrom x y.length a cuts, ∃ b c : Nat, p = strSub x b c ∧ a ≤ b ∧ ∀ i, b ≤ i → i < c → ¬ cov y.length cuts i
  | a, [], f, h, p, hp => by
    rw [partsFrom, List.mem_singleton] at hp
    exact ⟨a, x.length, hp, Nat.le_refl _, fun i _ _ ⟨c, hc, _⟩ => nomatch hc⟩
  | a, c :: r, f, h, p, hp => by
    rw [partsFrom, List.mem_cons] at hp
    rcases hp with rfl | hp
    · refine ⟨a, c, rfl, Nat.le_refl _, fun i h1 h2 ⟨d, hd, h3, h4⟩ => ?_⟩
      rcases List.mem_cons.mp hd with rfl | hd
      · omega
      · have := chain_ge h.2.2 d hd
        omega
    · obtain ⟨b, e, h1, h2, h3⟩ := parts_free x h.2.2 p hp
      refine ⟨b, e, h1, by have := h.1; omega, fun i h4 h5 ⟨d, hd, h6, h7⟩ => ?_⟩
      rcases List.mem_cons.mp hd with rfl | hd
      · omega
      · exact h3 i h4 h5 ⟨d, hd, h6, h7⟩
theorem split_free {x y : Str} {c0 : Nat} (hw : 0 < y.length) (hk : ¬ strKind x < strKind y) (hA : ∀ i, x.cps.toList[i]? = some c0 → At x y x.length i) : ∀ p ∈ Txt.split x y, c0 ∉ p.cps.toList := by
  have whole : ∀ h : (∀ i, ¬ At x y x.length i), ∀ p ∈ [x], c0 ∉ p.cps.toList := fun h p hp hm => by
    rw [List.mem_singleton.mp hp] at hm
    obtain ⟨i, hi⟩ := List.mem_iff_getElem?.mp hm
    exact h i (hA i hi)
  unfold Txt.split
  split
  · rename_i hc
    refine whole fun i hat => ?_
    have := hat.1
    have hk' : decide (strKind x < strKind y) = false := decide_eq_false hk
    rw [hk', Bool.or_false, decide_eq_true_eq] at hc
    omega
  · split
    · rename_i he
      refine whole fun i hat => ?_
      obtain ⟨c, hc, _⟩ := occ_cov x y hw hat
      rw [List.isEmpty_iff.mp he] at hc
      cases hc
    · intro p hp hm
      obtain ⟨f, h⟩ := occ_chain x y (x.length + 1)
      rw [partsBetween_eq] at hp
      obtain ⟨b, c, rfl, _, hfree⟩ := parts_free x h p hp
      rw [strSub_toList] at hm
      obtain ⟨j, hj⟩ := List.mem_iff_getElem?.mp hm
      rw [List.getElem?_take] at hj
      split at hj
      · rename_i hlt
        rw [List.getElem?_drop] at hj
        exact hfree (b + j) (by omega) (by omega) (occ_cov x y hw (hA _ hj))
      · cases hj
theorem two_cut {c0 : Nat} : ∀ {p q A B : List Nat}, c0 ∉ p → c0 ∉ q → p ++ c0 :: A = q ++ c0 :: B → p = q ∧ A = B
  | [], [], A, B, _, _, e => ⟨rfl, by simpa using e⟩
  | [], z :: q, A, B, _, hq, e => by
    have e := (List.cons.inj (show c0 :: A = z :: (q ++ c0 :: B) from e)).1
    exact (hq (by rw [e]; exact List.mem_cons_self)).elim
  | z :: p, [], A, B, hp, _, e => by
    have e := (List.cons.inj (show z :: (p ++ c0 :: A) = c0 :: B from e)).1
    exact (hp (by rw [← e]; exact List.mem_cons_self)).elim
  | z :: p, w :: q, A, B, hp, hq, e => by
    obtain ⟨e1, e2⟩ := List.cons.inj (show z :: (p ++ c0 :: A) = w :: (q ++ c0 :: B) from e)
    obtain ⟨h1, h2⟩ := two_cut (fun h => hp (List.mem_cons_of_mem _ h)) (fun h => hq (List.mem_cons_of_mem _ h)) e2
    exact ⟨by rw [e1, h1], h2⟩
theorem join_cons2 (y p q : Str) (r : List Str) : (Str.join y (p :: q :: r)).cps.toList = p.cps.toList ++ (y.cps.toList ++ (Str.join y (q :: r)).cps.toList) := by
  show (p ++ y ++ Str.join y (q :: r)).cps.toList = _
  rw [Str.cps_append, Str.cps_append, Array.toList_append, Array.toList_append, List.append_assoc]
theorem join_inj {y : Str} {c0 : Nat} {y' : List Nat} (hy : y.cps.toList = c0 :: y') : ∀ {ps qs : List Str}, ps ≠ [] → qs ≠ [] → (∀ p ∈ ps, c0 ∉ p.cps.toList) → (∀ p ∈ qs, c0 ∉ p.cps.toList) → Str.join y ps = Str.join y qs → ps = qs
  | [], _, h, _, _, _, _ => (h rfl).elim
  | _ :: _, [], _, h, _, _, _ => (h rfl).elim
  | [p], [q], _, _, _, _, e => by rw [show p = q from e]
  | [p], q :: q2 :: r, _, _, hp, _, e => by
    have e := congrArg (fun s : Str => s.cps.toList) (show p = Str.join y (q :: q2 :: r) from e)
    rw [join_cons2, hy] at e
    exact (hp p List.mem_cons_self (by rw [e]; simp)).elim
  | p :: p2 :: r, [q], _, _, _, hq, e => by
    have e := congrArg (fun s : Str => s.cps.toList) (show Str.join y (p :: p2 :: r) = q from e)
    rw [join_cons2, hy] at e
    exact (hq q List.mem_cons_self (by rw [← e]; simp)).elim
  | p :: p2 :: r, q :: q2 :: s, _, _, hp, hq, e => by
    have e := congrArg (fun s : Str => s.cps.toList) e
    rw [join_cons2, join_cons2, hy] at e
    obtain ⟨h1, h2⟩ := two_cut (hp p List.mem_cons_self) (hq q List.mem_cons_self) e
    have h3 := List.append_cancel_left h2
    have := join_inj hy (ps := p2 :: r) (qs := q2 :: s) (by simp) (by simp) (fun z hz => hp z (List.mem_cons_of_mem _ hz)) (fun z hz => hq z (List.mem_cons_of_mem _ hz)) (Str.ext' (Array.toList_inj.mp h3))
    rw [this, show p = q from Str.ext' (Array.toList_inj.mp h1)]
theorem split_ne (x y : Str) : Txt.split x y ≠ [] := by
  unfold Txt.split
  split
  · simp
  · split
    · simp
    · rw [partsBetween_eq]
      obtain ⟨p, r, e⟩ := partsFrom_ne x y.length 0 (occurrences x y 0 x.length (x.length + 1))
      rw [e]; simp
theorem split_join {y : Str} {c0 : Nat} {y' : List Nat} (hy : y.cps.toList = c0 :: y') {ps : List Str} (h0 : ps ≠ []) (hf : ∀ p ∈ ps, c0 ∉ p.cps.toList) (hk : ¬ strKind (Str.join y ps) < strKind y) (hA : ∀ i, (Str.join y ps).cps.toList[i]? = some c0 → At (Str.join y ps) y (Str.join y ps).length i) :
    Txt.split (Str.join y ps) y = ps := by
  have hw : 0 < y.length := by
    show 0 < y.cps.size
    rw [← Array.length_toList, hy]; simp
  exact join_inj hy (split_ne _ _) h0 (split_free hw hk hA) hf (join_split _ _)
end

/-! blanks, signs between rows, slashes -/
section
open PySem.StrLaws PySem.Builtin PySem.Builtin.Str
theorem kind_low {x y : Str} (hy : y.cps.all (· < 256) = true) : ¬ PySem.Builtin.Str.strKind x < PySem.Builtin.Str.strKind y := by
  have e : PySem.Builtin.Str.strKind y = 1 := by unfold PySem.Builtin.Str.strKind; rw [if_pos hy]
  rw [e]
  unfold PySem.Builtin.Str.strKind
  split
  · omega
  · split <;> omega
def sBl : Str := PySem.Str.ofString " "
def sSm : Str := PySem.Str.ofString "; "
def sSl : Str := PySem.Str.ofString "/"
theorem sBl_l : sBl.cps.toList = [32] := by decide +kernel
theorem sSm_l : sSm.cps.toList = [59, 32] := by decide +kernel
theorem sSl_l : sSl.cps.toList = [47] := by decide +kernel
theorem sBl_c : sBl = ⟨#[32]⟩ := by decide +kernel
theorem sSl_c : sSl = ⟨#[47]⟩ := by decide +kernel
theorem at_one {x : Str} {c i : Nat} (h : x.cps.toList[i]? = some c) : At x ⟨#[c]⟩ x.length i := (subAt_one x c i).mpr h
theorem split_words {ps : List Str} (h0 : ps ≠ []) (hf : ∀ p ∈ ps, 32 ∉ p.cps.toList) : Txt.split (Str.join sBl ps) sBl = ps :=
  split_join sBl_l h0 hf (kind_low (by decide +kernel)) fun i hi => by rw [sBl_c]; rw [sBl_c] at hi; exact at_one hi
theorem semi_next : ∀ {ps : List Str}, (∀ p ∈ ps, 59 ∉ p.cps.toList) → ∀ i, (Str.join sSm ps).cps.toList[i]? = some 59 → (Str.join sSm ps).cps.toList[i + 1]? = some 32
  | [], _, i, h => by simp [Str.join, Str.empty] at h
  | [p], hf, i, h => (hf p List.mem_cons_self (List.mem_of_getElem? (show p.cps.toList[i]? = some 59 from h))).elim
  | p :: q :: r, hf, i, h => by
    rw [join_cons2, sSm_l] at h ⊢
    by_cases h1 : i < p.cps.toList.length
    · rw [List.getElem?_append_left h1] at h
      exact (hf p List.mem_cons_self (List.mem_of_getElem? h)).elim
    · rw [List.getElem?_append_right (by omega)] at h ⊢
      rw [show i + 1 - p.cps.toList.length = (i - p.cps.toList.length) + 1 by omega]
      generalize i - p.cps.toList.length = j at h
      match j, h with
      | 0, _ => rfl
      | 1, h => exact absurd h (by simp)
      | j + 2, h =>
        have h : (Str.join sSm (q :: r)).cps.toList[j]? = some 59 := h
        exact semi_next (fun z hz => hf z (List.mem_cons_of_mem _ hz)) j h
theorem split_lines {ps : List Str} (h0 : ps ≠ []) (hf : ∀ p ∈ ps, 59 ∉ p.cps.toList) : Txt.split (Str.join sSm ps) sSm = ps :=
  split_join sSm_l h0 hf (kind_low (by decide +kernel)) fun i hi => by
    have h2 := semi_next hf i hi
    generalize Str.join sSm ps = x at hi h2
    have l1 := (List.getElem?_eq_some_iff.mp hi).1
    have l2 := (List.getElem?_eq_some_iff.mp h2).1
    have el : x.length = x.cps.toList.length := by rw [Array.length_toList]; rfl
    refine ⟨by rw [el, show sSm.length = 2 from by decide +kernel]; omega, ?_⟩
    rw [subAt_eq, sSm_l, show sSm.length = 2 from by decide +kernel, List.drop_eq_getElem_cons l1, List.drop_eq_getElem_cons l2]
    have e1 := (List.getElem?_eq_some_iff.mp hi).2
    have e2 := (List.getElem?_eq_some_iff.mp h2).2
    rw [e1, e2]; rfl
theorem part_none {x : Str} (h : 47 ∉ x.cps.toList) : Txt.partition x sSl = (x, Str.empty, Str.empty) := by
  unfold Txt.partition
  have := found_one x 47
  rw [sSl_c]
  cases e : occurrences x ⟨#[47]⟩ 0 x.length 1 with
  | nil => rfl
  | cons c r =>
    rw [e] at this
    simp at this
    exact (h (by simpa using this)).elim
theorem part_some {a b : Str} (h : 47 ∉ a.cps.toList) : Txt.partition (a ++ sSl ++ b) sSl = (a, sSl, b) := by
  have hx : (a ++ sSl ++ b).cps.toList = a.cps.toList ++ (47 :: b.cps.toList) := by
    rw [Str.cps_append, Str.cps_append, Array.toList_append, Array.toList_append, sSl_l, List.append_assoc]; rfl
  have hl : (a ++ sSl ++ b).length = (a ++ sSl ++ b).cps.toList.length := by rw [Array.length_toList]; rfl
  have hla : a.length = a.cps.toList.length := by rw [Array.length_toList]; rfl
  have h1 : sSl.length = 1 := by decide +kernel
  generalize a ++ sSl ++ b = x at hx hl
  have hi0 : x.cps.toList[a.cps.toList.length]? = some 47 := by rw [hx]; simp
  unfold Txt.partition
  rcases occ_head x sSl 1 (Nat.le_refl 1) with ⟨_, h2⟩ | ⟨i, r, e, hat, hlt⟩
  · exact (h2 _ (by rw [sSl_c]; exact at_one hi0)).elim
  · have hi : i = a.cps.toList.length := by
      by_cases c1 : i < a.cps.toList.length
      · rw [sSl_c] at hat
        have h3 := (subAt_one x 47 i).mp hat
        rw [hx, List.getElem?_append_left c1] at h3
        exact (h (List.mem_of_getElem? h3)).elim
      · by_cases c2 : a.cps.toList.length < i
        · exact (hlt _ c2 (by rw [sSl_c]; exact at_one hi0)).elim
        · omega
    subst hi
    rw [e]
    dsimp only
    rw [h1, hl]
    have s1 : strSub x 0 a.cps.toList.length = a := Str.ext' (Array.toList_inj.mp (by rw [strSub_toList, hx]; simp))
    have s2 : strSub x (a.cps.toList.length + 1) x.cps.toList.length = b := Str.ext' (Array.toList_inj.mp (by
      have e1 : a.cps.toList ++ 47 :: b.cps.toList = (a.cps.toList ++ [47]) ++ b.cps.toList := by simp
      have e2 : (a.cps.toList ++ 47 :: b.cps.toList).drop (a.cps.toList.length + 1) = b.cps.toList := by
        rw [e1]
        exact List.drop_left' (by simp)
      rw [strSub_toList, hx, e2]
      exact List.take_of_length_le (by simp; omega)))
    rw [s1, s2]
end

theorem eqB_str {s t : Str} (h1 : SeqAt.shaped (.str s) = true) (h2 : SeqAt.shaped (.str t) = true) (S : Sto) : eqB (.str s) (.str t) S = some (decide (s = t)) := by
  show (if SeqAt.shaped (.str s) = true ∧ SeqAt.shaped (.str t) = true then some (PyData.eqv (.str s) (.str t)) else none) = _
  rw [if_pos ⟨h1, h2⟩]
  rfl
theorem eqM_str {s t : Str} (h1 : SeqAt.shaped (.str s) = true) (h2 : SeqAt.shaped (.str t) = true) (S : Sto) : eqM (.str s) (.str t) S = .ok (.bl (decide (s = t))) S := by unfold eqM; rw [eqB_str h1 h2]
theorem neM_str {s t : Str} (h1 : SeqAt.shaped (.str s) = true) (h2 : SeqAt.shaped (.str t) = true) (S : Sto) : neM (.str s) (.str t) S = .ok (.bl (!decide (s = t))) S := by unfold neM; rw [eqB_str h1 h2]
theorem shD : SeqAt.shaped (.str (PySem.Str.ofString "dealing")) = true := by decide +kernel
theorem shS : SeqAt.shaped (.str (PySem.Str.ofString "short")) = true := by decide +kernel
theorem shE : SeqAt.shaped (.str (PySem.Str.ofString "")) = true := by decide +kernel
theorem dS_ne : (PySem.Str.ofString "short" = PySem.Str.ofString "dealing") = False := eq_false (by decide +kernel)
theorem dE_ne : (PySem.Str.ofString "dealing" = PySem.Str.ofString "") = False := eq_false (by decide +kernel)
theorem sE_ne : (PySem.Str.ofString "short" = PySem.Str.ofString "") = False := eq_false (by decide +kernel)

theorem fdivB {i j : Int} (h0 : 0 < j) {n : Nat} (h : j = (n : Int) ∧ n < 2 ^ 4000) (S : Sto) : fdivM (.int i) (.int j) S = .ok (.int (i / j)) S := by
  rw [fdivM_int, if_pos]
  unfold divC
  obtain ⟨rfl, h⟩ := h
  have := PySem.Flt.log2_lt_of (by decide : 0 < 4000) h
  rw [decide_eq_true h0, Int.natAbs_natCast, decide_eq_true (by omega)]
  rfl
theorem shared_with_spec {S : Sto} {b : Nat} (hb : 1 ≤ b) (n : Int) : r_shared_with [.int b, .int n] S = .ok (.int (Nat.gcd b n.natAbs : Nat)) S := by
  have ha : (if n < 0 then -n else n) = (n.natAbs : Int) := by split <;> omega
  simp (decide := true) only [ev, ex9, exA, exB, exD, exI, exJ, decide_true, decide_false, Bool.not_true, Bool.not_false, not_true, not_false_iff, eq_self, List.length_map, if_true, if_false, Bool.false_eq_true, r_shared_with_eq, c_shared_with, absM_int, ha]
  obtain ⟨σ', S', e, x, y, rfl, hx, rfl⟩ := whileM_inv (t := t_shared_with_1) (ws := []) (body := b_shared_with_1)
    (fun σ S' => ∃ x y : Nat, σ = [some (.int (x : Int)), some (.int n), some (.int (y : Int))] ∧ 1 ≤ x ∧ Nat.gcd x y = Nat.gcd b n.natAbs ∧ S' = S)
    (fun σ S' => ∃ x y : Nat, σ = [some (.int (x : Int)), some (.int n), some (.int (y : Int))] ∧ x = Nat.gcd b n.natAbs ∧ S' = S)
    (fun σ S' => match σ.getD 0 none with | some (.int i) => i.toNat | _ => 0)
    (fun σ S' hI => by
      obtain ⟨x, y, rfl, hx, hg, rfl⟩ := hI
      have hm : (y : Int) % (x : Int) = ((y % x : Nat) : Int) := (Int.natCast_emod y x).symm
      have hr := Nat.gcd_rec x y
      by_cases h : 0 < y % x
      · right
        have h' : (0 : Int) < ((y % x : Nat) : Int) := by omega
        refine ⟨S', by simp (decide := true) only [ev, ex9, exA, exB, exD, exI, exJ, decide_true, decide_false, Bool.not_true, Bool.not_false, not_true, not_false_iff, eq_self, List.length_map, if_true, if_false, Bool.false_eq_true, t_shared_with_1, modM_pos (i := (y : Int)) (j := (x : Int)) (by omega), hm, h'], ?_⟩
        simp (decide := true) only [ev, ex9, exA, exB, exD, exI, exJ, decide_true, decide_false, Bool.not_true, Bool.not_false, not_true, not_false_iff, eq_self, List.length_map, if_true, if_false, Bool.false_eq_true, b_shared_with_1, modM_pos (i := (y : Int)) (j := (x : Int)) (by omega), hm, Tn_nx]
        refine ⟨⟨y % x, x, rfl, h, by rw [← hr, hg], trivial⟩, ?_⟩
        show ((y % x : Nat) : Int).toNat < ((x : Nat) : Int).toNat
        have := Nat.mod_lt y hx
        omega
      · left
        have h' : ¬ (0 : Int) < ((y % x : Nat) : Int) := by omega
        refine ⟨S', by simp (decide := true) only [ev, ex9, exA, exB, exD, exI, exJ, decide_true, decide_false, Bool.not_true, Bool.not_false, not_true, not_false_iff, eq_self, List.length_map, if_true, if_false, Bool.false_eq_true, t_shared_with_1, modM_pos (i := (y : Int)) (j := (x : Int)) (by omega), hm, h'], x, y, rfl, ?_, rfl⟩
        rw [show y % x = 0 by omega, Nat.gcd_zero_left] at hr
        rw [← hg, hr]) (σ := [some (.int (b : Int)), some (.int n), some (.int (n.natAbs : Int))]) (S := S) ⟨b, n.natAbs, rfl, hb, rfl, rfl⟩
  rw [e]
  simp (decide := true) only [ev, ex9, exA, exB, exD, exI, exJ, decide_true, decide_false, Bool.not_true, Bool.not_false, not_true, not_false_iff, eq_self, List.length_map, if_true, if_false, Bool.false_eq_true, hx]

/-! figures -/
section
open PySem.StrLaws PySem.Builtin PySem.Builtin.Str
def dig (n : Nat) : Str := PySem.Str.ofString (toString (n : Int))
theorem dig_l (n : Nat) : (dig n).cps.toList = (Nat.toDigits 10 n).map Char.toNat := PySem.W.KIN.signs_num n
theorem dig_all (n : Nat) : PySem.NumText.AllDigits (dig n).cps.toList := by
  intro c hc
  rw [dig_l] at hc
  obtain ⟨ch, hch, e⟩ := List.mem_map.mp hc
  have r := PyProof.Rows.digit_range (Nat.isDigit_of_mem_toDigits (by decide) (by decide) hch)
  rw [← e]
  exact r
theorem dig_ne (n : Nat) : (dig n).cps.toList ≠ [] := by
  rw [dig_l]
  intro e
  have h := PySem.toDigits_len_ge 10 n
  rw [List.map_eq_nil_iff.mp e] at h
  exact absurd h (by decide)
theorem dig_len {n : Nat} (h : n < 10 ^ 30) : (dig n).length ≤ 30 := PyProof.Rows.toString_length_le (by omega) (by decide) (by
  have : ((10 ^ 30 : Nat) : Int) = 10 ^ 30 := by simp
  rw [← this]; exact Int.ofNat_lt.mpr h)
theorem dig_int {n : Nat} (h : (dig n).length ≤ 4300) : PySem.intText? (dig n) = some (n : Int) := by
  have e := PySem.intText_digits (dig_all n) (dig_ne n) h
  rw [dig_l, PySem.W.KIN.val_back] at e
  exact e
theorem dig_head : ∀ (n : Nat), 10 ≤ n → ∃ c cs, (Nat.toDigits 10 n).map Char.toNat = c :: cs ∧ c ≠ 48 := by
  intro n
  induction n using Nat.strongRecOn with
  | _ n ih =>
    intro hn
    have hm : n % 10 < 10 := Nat.mod_lt n (by decide)
    have t : Nat.toDigits 10 (n / 10) ++ Nat.toDigits 10 (n % 10) = Nat.toDigits 10 (10 * (n / 10) + n % 10) := Nat.toDigits_append_toDigits (by decide) (by omega) hm
    rw [Nat.div_add_mod] at t
    rw [← t, List.map_append]
    by_cases h : n / 10 < 10
    · rw [Nat.toDigits_of_lt_base h]
      refine ⟨_, _, rfl, ?_⟩
      have : ∀ d : Nat, d < 10 → 0 < d → (Nat.digitChar d).toNat ≠ 48 := by decide
      exact this _ h (by omega)
    · obtain ⟨c, cs, e, hc⟩ := ih (n / 10) (by omega) (by omega)
      exact ⟨c, cs ++ (Nat.toDigits 10 (n % 10)).map Char.toNat, by rw [e]; rfl, hc⟩
theorem dig_small {n : Nat} (h : n < 10) : (dig n).length = 1 := by
  show (dig n).cps.size = 1
  rw [← Array.length_toList, dig_l, Nat.toDigits_of_lt_base h]; rfl
end
theorem sh_str {s : Str} (h : ∀ c ∈ s.cps.toList, c < 256) : SeqAt.shaped (.str s) = true := by
  unfold SeqAt.shaped
  rw [PyData.canLay0, PyData.depth]
  have : PyData.strOk s = true := by
    unfold PyData.strOk
    rw [Array.all_eq_true_iff_forall_mem]
    intro c hc
    have := h c (Array.mem_toList_iff.mpr hc)
    simp; omega
  rw [this]; rfl
theorem dig_low (n : Nat) : ∀ c ∈ (dig n).cps.toList, c < 256 := fun c hc => by have := dig_all n c hc; omega
theorem low_of {s : Str} (h : s.cps.toList.all (· < 256) = true) : ∀ c ∈ s.cps.toList, c < 256 := fun c hc => by simpa using List.all_eq_true.mp h c hc
theorem fig_in {c : Nat} (h : 48 ≤ c ∧ c ≤ 57) : (!(!(PySem.Builtin.Str.occurrences (PySem.Str.ofString "0123456789") ⟨#[c]⟩ 0 (PySem.Str.ofString "0123456789").length 1).isEmpty)) = false := by
  have : c = 48 ∨ c = 49 ∨ c = 50 ∨ c = 51 ∨ c = 52 ∨ c = 53 ∨ c = 54 ∨ c = 55 ∨ c = 56 ∨ c = 57 := by omega
  rw [PySem.StrLaws.found_one]
  rcases this with rfl | rfl | rfl | rfl | rfl | rfl | rfl | rfl | rfl | rfl <;> decide +kernel
theorem read_figures_ok {S : Sto} {n : Nat} (h : n < 10 ^ 30) : r_read_figures [.str (dig n)] S = .ok (.int (n : Int)) S := by
  have hl := dig_len h
  have hne : ¬ dig n = PySem.Str.ofString "" := fun e => dig_ne n (by rw [e]; decide +kernel)
  have hi := dig_int (n := n) (by omega)
  have ln : lenM [.str (dig n)] S = .ok (.int ((dig n).length : Int)) S := by
    unfold lenM
    dsimp only
    rw [if_pos (by unfold lim; omega)]
  have fl : Fx.forM chkY (gI1 1) [1] b_read_figures_1 (strI (dig n)) [some (.str (dig n)), none] S = .ok (.nx [some (.str (dig n)), none]) S := by
    unfold strI
    obtain ⟨S', e, rfl⟩ := forM_at (chk := chkY) (tg := gI1 1) (ws := [1]) (body := b_read_figures_1) (xs := List.range (dig n).cps.size) (fun i => Itm.one (.str ⟨#[(dig n).cps.getD i 0]⟩))
      (fun _ => [some (.str (dig n)), none]) (fun _ S' => S' = S) (fun _ _ _ => rfl)
      (fun i x S' hx hS => by
        subst hS
        obtain ⟨hi, rfl⟩ := rng_at hx
        refine ⟨_, gI1_one _ _ _ _, ?_⟩
        have hc : (dig n).cps.getD i 0 ∈ (dig n).cps.toList := by
          rw [Array.getD_eq_getD_getElem?, Array.getElem?_eq_getElem hi]
          exact Array.getElem_mem_toList _
        have hf := fig_in (dig_all n _ hc)
        simp (decide := true) only [ev, ex9, exA, exB, exD, exI, exJ, decide_true, decide_false, Bool.not_true, Bool.not_false, not_true, not_false_iff, eq_self, List.length_map, if_true, if_false, Bool.false_eq_true, b_read_figures_1, inSM, hf, Tn_nx]) (S := S) rfl
    exact e
  have iS' : intSM [.str (dig n)] S = .ok (.int (n : Int)) S := by
    unfold intSM
    dsimp only
    rw [hi]
    dsimp only
    rw [if_pos (by omega)]
  by_cases c : ((dig n).length : Int) > 1
  · have h10 : 10 ≤ n := Nat.le_of_not_lt fun h => by have := dig_small h; omega
    obtain ⟨d, ds, e, hd⟩ := dig_head n h10
    have x0 : ∃ z : Str, ixM (.str (dig n)) (.int 0) S = .ok (.str z) S ∧ ¬ z = PySem.Str.ofString "0" ∧ ∀ c ∈ z.cps.toList, c < 256 := by
      refine ⟨⟨#[d]⟩, ?_, fun z => hd ?_, fun c hc => ?_⟩
      · show ixS (dig n) (.int 0) S = _
        unfold ixS
        dsimp only
        rw [if_pos (by unfold lim; omega), dig_l, e]
        simp [atI, ixN]
      · have := congrArg (fun s : Str => s.cps.toList) z
        rw [show (PySem.Str.ofString "0").cps.toList = [48] from by decide +kernel] at this
        simpa using this
      · have : c = d := by simpa using hc
        rw [this]
        have hm : d ∈ (dig n).cps.toList := by rw [dig_l, e]; exact List.mem_cons_self
        exact dig_low n d hm
    obtain ⟨z, x0, hz, hzl⟩ := x0
    simp (decide := true) only [ev, ex9, exA, exB, exD, exI, exJ, decide_true, decide_false, Bool.not_true, Bool.not_false, not_true, not_false_iff, eq_self, List.length_map, if_true, if_false, Bool.false_eq_true, r_read_figures_eq, c_read_figures, eqM_str (sh_str (dig_low n)) (sh_str (low_of (s := PySem.Str.ofString "") (by decide +kernel))), eqM_str (s := z) (t := PySem.Str.ofString "0") (sh_str hzl) (sh_str (low_of (by decide +kernel))), hne, ln, show ¬ ((dig n).length : Int) > 30 by omega, c, x0, hz, kIS_ok (show (dig n).cps.size ≤ 640 from by have : (dig n).cps.size = (dig n).length := rfl; omega), fl, iS']
  · simp (decide := true) only [ev, ex9, exA, exB, exD, exI, exJ, decide_true, decide_false, Bool.not_true, Bool.not_false, not_true, not_false_iff, eq_self, List.length_map, if_true, if_false, Bool.false_eq_true, r_read_figures_eq, c_read_figures, eqM_str (sh_str (dig_low n)) (sh_str (low_of (s := PySem.Str.ofString "") (by decide +kernel))), hne, ln, show ¬ ((dig n).length : Int) > 30 by omega, c, kIS_ok (show (dig n).cps.size ≤ 640 from by have : (dig n).cps.size = (dig n).length := rfl; omega), fl, iS']

/-! fractions read -/
section
open PySem.StrLaws PySem.Builtin PySem.Builtin.Str
def txt (t : Int) : Str := PySem.Str.ofString (toString t)
theorem txt_pos (n : Nat) : txt (n : Int) = dig n := rfl
theorem txt_neg {n : Nat} (h : 0 < n) : (txt (-(n : Int))).cps.toList = 45 :: (dig n).cps.toList := by
  obtain ⟨m, rfl⟩ : ∃ m, n = m + 1 := ⟨n - 1, by omega⟩
  unfold txt dig
  rw [PyProof.Rows.signs_ofString, PyProof.Rows.signs_ofString]
  show (toString (Int.negSucc m)).toList.map Char.toNat = _
  rw [show toString (Int.negSucc m) = "-" ++ toString (((m + 1 : Nat) : Int)) from rfl]
  rw [String.toList_append, List.map_append]
  rfl
def fr (t b : Int) : Str := if b = 1 then txt t else txt t ++ sSl ++ txt b
theorem starts_iff (x : Str) : Txt.startswith x (PySem.Str.ofString "-") = decide (x.cps.toList[0]? = some 45) := by
  rw [show PySem.Str.ofString "-" = ⟨#[45]⟩ from by decide +kernel]
  have h := subAt_one x 45 0
  unfold Txt.startswith
  rw [Bool.eq_iff_iff, Bool.and_eq_true, decide_eq_true_eq, decide_eq_true_eq]
  exact h
theorem cut_one {w r : Str} {c : Nat} (h : w.cps.toList = c :: r.cps.toList) : cutS w (some 1) none = r := by
  have hl : w.length = r.cps.toList.length + 1 := by
    show w.cps.size = _
    rw [← Array.length_toList, h]; rfl
  have e1 : HT.sIx w.length 0 (some 1) = 1 := by
    unfold HT.sIx
    dsimp only
    split <;> omega
  have e2 : HT.sIx w.length w.length none = w.length := HT.sIx_none _ _
  unfold cutS
  rw [e1, e2, h, hl]
  apply Str.ext'
  apply Array.toList_inj.mp
  simp
  exact List.take_of_length_le (by simp)
theorem fr_first (n b : Nat) : ∃ c cs, (fr (n : Int) (b : Int)).cps.toList = c :: cs ∧ 48 ≤ c ∧ c ≤ 57 := by
  obtain ⟨c, cs, e⟩ := List.exists_cons_of_ne_nil (dig_ne n)
  have hc := dig_all n c (by rw [e]; exact List.mem_cons_self)
  unfold fr
  split
  · exact ⟨c, cs, by rw [txt_pos, e], hc⟩
  · exact ⟨c, cs ++ (sSl.cps.toList ++ (txt (b : Int)).cps.toList), by rw [Str.cps_append, Str.cps_append, Array.toList_append, Array.toList_append, txt_pos, e, List.append_assoc]; rfl, hc⟩
theorem fr_neg {n : Nat} (b : Nat) (h : 0 < n) : (fr (-(n : Int)) (b : Int)).cps.toList = 45 :: (fr (n : Int) (b : Int)).cps.toList := by
  unfold fr
  split
  · exact txt_neg h
  · rw [Str.cps_append, Str.cps_append, Str.cps_append, Str.cps_append, Array.toList_append, Array.toList_append, Array.toList_append, Array.toList_append, txt_neg h, txt_pos]
    rfl
theorem dig_no (n : Nat) {c : Nat} (h : c < 48 ∨ 57 < c) : c ∉ (dig n).cps.toList := fun hc => by have := dig_all n c hc; omega
theorem fr_part1 (n : Nat) : Txt.partition (fr (n : Int) 1) sSl = (dig n, Str.empty, Str.empty) := by
  unfold fr
  rw [if_pos rfl, txt_pos]
  exact part_none (dig_no n (by omega))
theorem fr_part2 (n : Nat) {b : Nat} (hb : 2 ≤ b) : Txt.partition (fr (n : Int) (b : Int)) sSl = (dig n, sSl, dig b) := by
  unfold fr
  rw [if_neg (by omega), txt_pos, txt_pos]
  exact part_some (dig_no n (by omega))
theorem fr_len {n b : Nat} (h1 : n < 10 ^ 30) (h2 : b < 10 ^ 30) : (fr (n : Int) (b : Int)).length ≤ 61 := by
  have l1 := dig_len h1
  have l2 := dig_len h2
  unfold fr
  split
  · rw [txt_pos]; omega
  · rw [Str.length_append, Str.length_append, txt_pos, txt_pos, show sSl.length = 1 from by decide +kernel]; omega
theorem dig_inj0 {n : Nat} (h : 0 < n) : ¬ dig n = PySem.Str.ofString "0" := fun e => by
  have e2 : dig n = dig 0 := e
  have h1 : (Nat.toDigits 10 n).map Char.toNat = (Nat.toDigits 10 0).map Char.toNat := by rw [← dig_l, ← dig_l, e2]
  have h2 := PySem.W.KIN.val_back n
  rw [h1, PySem.W.KIN.val_back] at h2
  omega
noncomputable def cR : St → Sto → R Fl :=
    (sSq (sAs (gU [2, 3, 4]) (eM isSt partM (eV 0) (aCons (eC (.str (PySem.Str.ofString "/"))) aNil)))
    (sSq (sIf (tAn (tV (eO eqM (eV 1) (eU negM (eC (.int 1))))) (tV (eO eqM (eV 2) (eC (.str (PySem.Str.ofString "0"))))))
    (sRs "NoText")
    sNx)
    (sSq (sIf (tV (eO eqM (eV 3) (eC (.str (PySem.Str.ofString "")))))
    (sRet (eTup (aCons (eO mulM (eV 1) (eCl 1 r_read_figures (aCons (eV 2) aNil))) (aCons (eC (.int 1)) aNil))))
    sNx)
    (sSq (sSet 5 (eTup (aCons (eO mulM (eV 1) (eCl 1 r_read_figures (aCons (eV 2) aNil))) (aCons (eCl 1 r_read_figures (aCons (eV 4) aNil)) aNil))))
    (sSq (sIf (tO (tV (eO ltM (eO ixM (eV 5) (eC (.int 1))) (eC (.int 2)))) (tV (eO neM (eCl 2 r_shared_with (aCons (eO ixM (eV 5) (eC (.int 1))) (aCons (eO ixM (eV 5) (eC (.int 0))) aNil))) (eC (.int 1)))))
    (sRs "NoText")
    sNx)
    (sRet (eV 5)))))))
theorem c_read_fraction_cut : c_read_fraction =
  (sSq (sSet 1 (eC (.int 1)))
    (sSq (sIf (tV (eM isSt startsM (eV 0) (aCons (eC (.str (PySem.Str.ofString "-"))) aNil)))
    (sSq (sSet 1 (eU negM (eC (.int 1))))
    (sSet 0 (eSl (eV 0) (some (eC (.int 1))) none)))
    sNx) cR)) := rfl
theorem eq_str2 {s t : Str} (h1 : ∀ c ∈ s.cps.toList, c < 256) (h2 : t.cps.toList.all (· < 256) = true) (S : Sto) : eqM (.str s) (.str t) S = .ok (.bl (decide (s = t))) S := eqM_str (sh_str h1) (sh_str (low_of h2)) S
theorem cR_ok {S : Sto} {n b : Nat} {sg : Int} (hs : sg = 1 ∨ sg = -1 ∧ 0 < n) (hb : 1 ≤ b ∧ b < 10 ^ 30) (hn : n < 10 ^ 30) (hg : Nat.gcd b n = 1) :
    ∃ (S' : Sto) (q : Nat), cR [some (.str (fr (n : Int) (b : Int))), some (.int sg), none, none, none, none] S = .ok (.rt (.ref q)) S' ∧ Up [] S S' ∧ S'[q]? = some (.tup [.int (sg * n), .int b]) := by
  have hl := fr_len hn hb.2
  have hlim : (fr (n : Int) (b : Int)).length ≤ lim := by unfold lim; omega
  have sl : PySem.Str.ofString "/" = sSl := rfl
  have ml : mulM (.int sg) (.int (n : Int)) = fun S => .ok (.int (sg * n)) S := by funext S; exact mulM_l (by omega) S
  by_cases h1 : b = 1
  · subst h1
    have hp := fr_part1 n
    have pm : partM (.str (fr (n : Int) (((1 : Nat)) : Int))) [.str sSl] S = .ok (.ref S.length) (S ++ [.tup [.str (dig n), .str Str.empty, .str Str.empty]]) := by
      unfold partM
      dsimp only
      rw [if_pos ⟨by decide +kernel, hlim⟩, show (((1 : Nat)) : Int) = 1 from rfl, hp]; rfl
    have q1 := snew S (.tup [.str (dig n), .str Str.empty, .str Str.empty])
    have u1 := Up.app [] S [.tup [.str (dig n), .str Str.empty, .str Str.empty]]
    generalize S ++ [Ob.tup [.str (dig n), .str Str.empty, .str Str.empty]] = S1 at pm q1 u1
    have rf := read_figures_ok (S := S1) hn
    have e0 : eqM (.str Str.empty) (.str (PySem.Str.ofString "")) S1 = .ok (.bl true) S1 := by
      rw [eq_str2 (fun c hc => by simp [Str.empty] at hc) (by decide +kernel), decide_eq_true (by decide +kernel)]
    have fin : ∃ (S' : Sto) (q : Nat), R.ok (Fl.rt (V.ref S1.length)) (S1 ++ [Ob.tup [.int (sg * n), .int 1]]) = .ok (.rt (.ref q)) S' ∧ Up [] S S' ∧ S'[q]? = some (.tup [.int (sg * n), .int ((1 : Nat) : Int)]) := ⟨_, _, rfl, u1.trans (Up.app _ _ _), snew _ _⟩
    rcases hs with rfl | ⟨rfl, h0⟩
    · simp (decide := true) only [ev, ex9, exA, exB, exD, exI, exJ, decide_true, decide_false, Bool.not_true, Bool.not_false, not_true, not_false_iff, eq_self, List.length_map, if_true, if_false, Bool.false_eq_true, cR, sl, isSt, pm, rdLT_tup q1, kGT3, e0, rf, ml]
      exact fin
    · simp (decide := true) only [ev, ex9, exA, exB, exD, exI, exJ, decide_true, decide_false, Bool.not_true, Bool.not_false, not_true, not_false_iff, eq_self, List.length_map, if_true, if_false, Bool.false_eq_true, cR, sl, isSt, pm, rdLT_tup q1, kGT3, eq_str2 (S := S1) (t := PySem.Str.ofString "0") (dig_low n) (by decide +kernel), dig_inj0 h0, e0, rf, ml]
      exact fin
  · have hp := fr_part2 n (b := b) (by omega)
    have pm : partM (.str (fr (n : Int) (b : Int))) [.str sSl] S = .ok (.ref S.length) (S ++ [.tup [.str (dig n), .str sSl, .str (dig b)]]) := by
      unfold partM
      dsimp only
      rw [if_pos ⟨by decide +kernel, hlim⟩, hp]; rfl
    have q1 := snew S (.tup [.str (dig n), .str sSl, .str (dig b)])
    have u1 := Up.app [] S [.tup [.str (dig n), .str sSl, .str (dig b)]]
    generalize S ++ [Ob.tup [.str (dig n), .str sSl, .str (dig b)]] = S1 at pm q1 u1
    have rf := read_figures_ok (S := S1) hn
    have rf2 := read_figures_ok (S := S1) hb.2
    have e0 : eqM (.str sSl) (.str (PySem.Str.ofString "")) S1 = .ok (.bl false) S1 := by
      rw [eq_str2 (low_of (by decide +kernel)) (by decide +kernel), decide_eq_false (by decide +kernel)]
    have u2 := Up.app [] S1 [.tup [.int (sg * n), .int (b : Int)]]
    have q2 := snew S1 (.tup [.int (sg * n), .int (b : Int)])
    have x1 := ixQ_int (i := 1) (v := .int (b : Int)) (rdLT_tup q2) (by decide) rfl
    have x0 := ixQ_int (i := 0) (v := .int (sg * n)) (rdLT_tup q2) (by decide) rfl
    have hab : (sg * (n : Int)).natAbs = n := by rcases hs with rfl | ⟨rfl, _⟩ <;> simp
    have sw := shared_with_spec (S := S1 ++ [.tup [.int (sg * n), .int (b : Int)]]) (b := b) hb.1 (sg * n)
    rw [hab, hg] at sw
    have fin : ∃ (S' : Sto) (q : Nat), R.ok (Fl.rt (V.ref S1.length)) (S1 ++ [Ob.tup [.int (sg * n), .int (b : Int)]]) = .ok (.rt (.ref q)) S' ∧ Up [] S S' ∧ S'[q]? = some (.tup [.int (sg * n), .int (b : Int)]) := ⟨_, _, rfl, u1.trans u2, q2⟩
    rcases hs with rfl | ⟨rfl, h0⟩
    · simp (decide := true) only [ev, ex9, exA, exB, exD, exI, exJ, decide_true, decide_false, Bool.not_true, Bool.not_false, not_true, not_false_iff, eq_self, List.length_map, if_true, if_false, Bool.false_eq_true, cR, sl, isSt, pm, rdLT_tup q1, kGT3, e0, rf, rf2, ml, x1, x0, show ¬ (b : Int) < 2 by omega, sw]
      exact fin
    · simp (decide := true) only [ev, ex9, exA, exB, exD, exI, exJ, decide_true, decide_false, Bool.not_true, Bool.not_false, not_true, not_false_iff, eq_self, List.length_map, if_true, if_false, Bool.false_eq_true, cR, sl, isSt, pm, rdLT_tup q1, kGT3, eq_str2 (S := S1) (t := PySem.Str.ofString "0") (dig_low n) (by decide +kernel), dig_inj0 h0, e0, rf, rf2, ml, x1, x0, show ¬ (b : Int) < 2 by omega, sw]
      exact fin
theorem read_fraction_ok {S : Sto} {t : Int} {b : Nat} (hb : 1 ≤ b ∧ b < 10 ^ 30) (ht : t.natAbs < 10 ^ 30) (hg : Nat.gcd b t.natAbs = 1) :
    ∃ (S' : Sto) (q : Nat), r_read_fraction [.str (fr t b)] S = .ok (.ref q) S' ∧ Up [] S S' ∧ S'[q]? = some (.tup [.int t, .int b]) := by
  have st : ∀ x : Str, startsM (.str x) [.str (PySem.Str.ofString "-")] S = .ok (.bl (decide (x.cps.toList[0]? = some 45))) S := fun x => by
    unfold startsM
    dsimp only
    rw [starts_iff]
  by_cases h : 0 ≤ t
  · obtain ⟨n, rfl⟩ := Int.eq_ofNat_of_zero_le h
    have hn : n < 10 ^ 30 := ht
    obtain ⟨c, cs, e, hc⟩ := fr_first n b
    obtain ⟨S', q, e1, u, k⟩ := cR_ok (S := S) (n := n) (b := b) (sg := 1) (.inl rfl) hb hn hg
    have sf := st (fr (n : Int) (b : Int))
    rw [e, decide_eq_false (by simp; omega)] at sf
    simp (decide := true) only [ev, ex9, exA, exB, exD, exI, exJ, decide_true, decide_false, Bool.not_true, Bool.not_false, not_true, not_false_iff, eq_self, List.length_map, if_true, if_false, Bool.false_eq_true, r_read_fraction_eq, c_read_fraction_cut, isSt, sf, e1]
    exact ⟨S', q, rfl, u, by rw [k, Int.one_mul]⟩
  · obtain ⟨n, hn0⟩ : ∃ n : Nat, t = -(n : Int) := ⟨t.natAbs, by omega⟩
    subst hn0
    have h0 : 0 < n := by omega
    have hab : (-(n : Int)).natAbs = n := by simp
    rw [hab] at ht hg
    have e := fr_neg b h0
    obtain ⟨S', q, e1, u, k⟩ := cR_ok (S := S) (n := n) (b := b) (sg := -1) (.inr ⟨rfl, h0⟩) hb ht hg
    have sf := st (fr (-(n : Int)) (b : Int))
    rw [e, decide_eq_true (by simp)] at sf
    have hl : (fr (-(n : Int)) (b : Int)).length ≤ lim := by
      have h1 := fr_len ht hb.2
      have h2 : (fr (-(n : Int)) (b : Int)).length = (fr (n : Int) (b : Int)).length + 1 := by
        show (fr (-(n : Int)) (b : Int)).cps.size = _
        rw [← Array.length_toList, e, List.length_cons, Array.length_toList]; rfl
      unfold lim; omega
    have ct : cutM (.str (fr (-(n : Int)) (b : Int))) (some 1) none S = .ok (.str (fr (n : Int) (b : Int))) S := by
      simp only [cutM, hl, if_true, cut_one e]
    simp (decide := true) only [ev, ex9, exA, exB, exD, exI, exJ, decide_true, decide_false, Bool.not_true, Bool.not_false, not_true, not_false_iff, eq_self, List.length_map, if_true, if_false, Bool.false_eq_true, r_read_fraction_eq, c_read_fraction_cut, isSt, sf, ct, e1]
    exact ⟨S', q, rfl, u, by rw [k]; simp⟩
theorem fr_free (t : Int) (b : Nat) {c : Nat} (h : c = 32 ∨ c = 59) : c ∉ (fr t (b : Int)).cps.toList := by
  have hp : ∀ n : Nat, c ∉ (fr (n : Int) (b : Int)).cps.toList := fun n => by
    unfold fr
    split
    · exact dig_no n (by omega)
    · rw [Str.cps_append, Str.cps_append, Array.toList_append, Array.toList_append, txt_pos, txt_pos, sSl_l]
      intro hm
      rcases List.mem_append.mp hm with hm | hm
      · rcases List.mem_append.mp hm with hm | hm
        · exact dig_no n (by omega) hm
        · have : c = 47 := by simpa using hm
          omega
      · exact dig_no b (by omega) hm
  by_cases h0 : 0 ≤ t
  · obtain ⟨n, rfl⟩ := Int.eq_ofNat_of_zero_le h0
    exact hp n
  · obtain ⟨n, hn0⟩ : ∃ n : Nat, t = -(n : Int) := ⟨t.natAbs, by omega⟩
    subst hn0
    rw [fr_neg b (by omega)]
    intro hm
    rcases List.mem_cons.mp hm with hm | hm
    · omega
    · exact hp n hm
end

/-! rows read -/
section
open PySem.StrLaws PySem.Builtin PySem.Builtin.Str
abbrev PrI := Nat × Int × Int
abbrev fT (F : List PrI) : List V := F.map fun p => V.ref p.1
/-- a fraction that may be written -/
def Frc (c : Int × Nat) : Prop := (1 ≤ c.2 ∧ c.2 < 10 ^ 30) ∧ c.1.natAbs < 10 ^ 30 ∧ Nat.gcd c.2 c.1.natAbs = 1
def word (c : Int × Nat) : Str := fr c.1 (c.2 : Int)
def line (C : List (Int × Nat)) : Str := Str.join sBl (C.map word)
theorem pair_tup {S : Sto} : ∀ {C : List (Int × Nat)} {vs : List V}, Paired (fun (c : Int × Nat) v => ∃ q : Nat, v = .ref q ∧ S[q]? = some (.tup [.int c.1, .int (c.2 : Int)])) C vs → ∃ F : List PrI, vs = fT F ∧ F.map Prod.snd = C.map (fun c => (c.1, (c.2 : Int))) ∧ TpI S F
  | [], vs, h => by cases h; exact ⟨[], rfl, rfl, fun _ h => nomatch h⟩
  | c :: C, vs, h => by
    cases h with
    | cons r t =>
      obtain ⟨q, rfl, k⟩ := r
      obtain ⟨F, rfl, hF, hT⟩ := pair_tup t
      refine ⟨(q, c.1, (c.2 : Int)) :: F, rfl, by rw [List.map_cons, hF]; rfl, fun p hp => ?_⟩
      rcases List.mem_cons.mp hp with rfl | hp
      · exact k
      · exact hT p hp
theorem word_len {c : Int × Nat} (h : Frc c) : (word c).length ≤ 62 := by
  unfold word
  by_cases h0 : 0 ≤ c.1
  · obtain ⟨n, e⟩ := Int.eq_ofNat_of_zero_le h0
    rw [e]
    have := fr_len (n := n) (b := c.2) (by have := h.2.1; rw [e] at this; exact this) h.1.2
    omega
  · obtain ⟨n, e⟩ : ∃ n : Nat, c.1 = -(n : Int) := ⟨c.1.natAbs, by omega⟩
    have h1 := fr_len (n := n) (b := c.2) (by have := h.2.1; rw [e] at this; simpa using this) h.1.2
    have e2 := fr_neg (n := n) c.2 (by omega)
    rw [e]
    have h2 : (fr (-(n : Int)) (c.2 : Int)).length = (fr (n : Int) (c.2 : Int)).length + 1 := by
      show (fr (-(n : Int)) (c.2 : Int)).cps.size = _
      rw [← Array.length_toList, e2, List.length_cons, Array.length_toList]; rfl
    omega
theorem sum_le {B : Nat} : ∀ {l : List Nat}, (∀ x ∈ l, x ≤ B) → l.sum ≤ l.length * B
  | [], _ => by simp
  | x :: l, h => by
    have h1 := h x List.mem_cons_self
    have h2 := sum_le (l := l) fun y hy => h y (List.mem_cons_of_mem _ hy)
    rw [List.sum_cons, List.length_cons, Nat.succ_mul]
    omega
theorem line_len {C : List (Int × Nat)} (hC : ∀ c ∈ C, Frc c) (h8 : C.length ≤ 8) : (line C).length ≤ 504 := by
  have h := join_length_le sBl (C.map word)
  have h2 := sum_le (B := 62) (l := (C.map word).map (·.length)) (fun x hx => by
    rw [List.map_map] at hx
    obtain ⟨c, hc, rfl⟩ := List.mem_map.mp hx
    exact word_len (hC c hc))
  rw [List.length_map, List.length_map] at h2
  rw [List.length_map, show sBl.length = 1 from by decide +kernel] at h
  unfold line
  omega
end

/-! tables read -/
section
open PySem.StrLaws PySem.Builtin PySem.Builtin.Str
def lcmR (s : Nat) (C : List (Int × Nat)) : Nat := C.foldl (fun s c => Nat.lcm s c.2) s
def lcmG (s : Nat) (G : List (List (Int × Nat))) : Nat := G.foldl lcmR s
def text (G : List (List (Int × Nat))) : Str := Str.join sSm (G.map line)
abbrev vC (C : List (Int × Nat)) : List (Int × Int) := C.map fun c => (c.1, (c.2 : Int))
structure Cel (S : Sto) (a : Nat) (R : List (Nat × List PrI)) : Prop where
  top : S[a]? = some (.lst (R.map fun g => V.ref g.1))
  row : ∀ g ∈ R, S[g.1]? = some (.lst (fT g.2))
  tup : ∀ g ∈ R, TpI S g.2
theorem Cel.up {S S' : Sto} {a : Nat} {R : List (Nat × List PrI)} (h : Cel S a R) (u : Up [] S S') : Cel S' a R := ⟨u.get h.top, fun g hg => u.get (h.row g hg), fun g hg => (h.tup g hg).up u⟩
theorem pair_rows {S : Sto} : ∀ {G : List (List (Int × Nat))} {vs : List V}, Paired (fun (C : List (Int × Nat)) v => ∃ (q : Nat) (F : List PrI), v = .ref q ∧ S[q]? = some (.lst (fT F)) ∧ F.map Prod.snd = vC C ∧ TpI S F) G vs →
    ∃ R : List (Nat × List PrI), vs = (R.map fun g => V.ref g.1) ∧ R.map (fun g => g.2.map Prod.snd) = G.map vC ∧ (∀ g ∈ R, S[g.1]? = some (.lst (fT g.2))) ∧ ∀ g ∈ R, TpI S g.2
  | [], vs, h => by cases h; exact ⟨[], rfl, rfl, (fun _ h => nomatch h), fun _ h => nomatch h⟩
  | c :: C, vs, h => by
    cases h with
    | cons r t =>
      obtain ⟨q, F, rfl, k, hF, hT⟩ := r
      obtain ⟨R, rfl, hR, h1, h2⟩ := pair_rows t
      refine ⟨(q, F) :: R, rfl, by rw [List.map_cons, List.map_cons, hR, hF], fun p hp => ?_, fun p hp => ?_⟩
      · rcases List.mem_cons.mp hp with rfl | hp
        · exact k
        · exact h1 p hp
      · rcases List.mem_cons.mp hp with rfl | hp
        · exact hT
        · exact h2 p hp
theorem text_len {G : List (List (Int × Nat))} (hG : ∀ C ∈ G, (∀ c ∈ C, Frc c) ∧ C.length ≤ 8) (h8 : G.length ≤ 8) : (text G).length ≤ 4048 := by
  have h := join_length_le sSm (G.map line)
  have h2 := sum_le (B := 504) (l := (G.map line).map (·.length)) (fun x hx => by
    rw [List.map_map] at hx
    obtain ⟨C, hC, rfl⟩ := List.mem_map.mp hx
    exact line_len (hG C hC).1 (hG C hC).2)
  rw [List.length_map, List.length_map] at h2
  rw [List.length_map, show sSm.length = 2 from by decide +kernel] at h
  unfold text
  omega
theorem line_free {C : List (Int × Nat)} : 59 ∉ (line C).cps.toList := by
  unfold line
  induction C with
  | nil => simp [Str.join, Str.empty]
  | cons c C ih =>
    cases C with
    | nil => exact fr_free c.1 c.2 (.inr rfl)
    | cons d D =>
      rw [List.map_cons, List.map_cons, join_cons2, sBl_l]
      intro hm
      rcases List.mem_append.mp hm with hm | hm
      · exact fr_free c.1 c.2 (.inr rfl) hm
      · rcases List.mem_append.mp hm with hm | hm
        · simp at hm
        · exact ih hm
theorem lcm_le {s b e k : Nat} (hs : 1 ≤ s ∧ s ≤ 2 ^ (e * k)) (hb : 1 ≤ b ∧ b ≤ 2 ^ e) : 1 ≤ Nat.lcm s b ∧ Nat.lcm s b ≤ 2 ^ (e * (k + 1)) := by
  refine ⟨Nat.pos_of_ne_zero (Nat.lcm_ne_zero (by omega) (by omega)), Nat.le_trans (Nat.div_le_self _ _) ?_⟩
  rw [Nat.mul_add, Nat.mul_one, Nat.pow_add]
  exact Nat.mul_le_mul hs.2 hb.2
theorem lcm_int {s b : Nat} (hb : 1 ≤ b) : (s : Int) * (b : Int) / ((Nat.gcd s b : Nat) : Int) = ((Nat.lcm s b : Nat) : Int) := by
  rw [← Int.natCast_mul, ← Int.natCast_ediv]; rfl
/-- numbers that stay small enough -/
def SmG (w : Nat) (G : List (List (Int × Nat))) : Prop := ∃ e, e * (w * G.length) ≤ 1900 ∧ ∀ C ∈ G, ∀ c ∈ C, c.2 ≤ 2 ^ e
theorem big {x k : Nat} (h : x ≤ 2 ^ k) (hk : k ≤ 1900) : ((x : Int)).natAbs < 2 ^ 2000 := by
  rw [Int.natAbs_natCast]
  exact Nat.lt_of_le_of_lt h (Nat.pow_lt_pow_right (by decide) (by omega))
theorem lcmR_bd {e : Nat} : ∀ {C : List (Int × Nat)} {s k : Nat}, (1 ≤ s ∧ s ≤ 2 ^ (e * k)) → (∀ c ∈ C, 1 ≤ c.2 ∧ c.2 ≤ 2 ^ e) → 1 ≤ lcmR s C ∧ lcmR s C ≤ 2 ^ (e * (k + C.length))
  | [], s, k, hs, _ => hs
  | c :: C, s, k, hs, hC => by
    have h1 := lcm_le hs (hC c List.mem_cons_self)
    have h2 := lcmR_bd (C := C) (s := Nat.lcm s c.2) (k := k + 1) h1 fun d hd => hC d (List.mem_cons_of_mem _ hd)
    rw [List.length_cons, show k + (C.length + 1) = k + 1 + C.length by omega]
    exact h2
theorem lcmR_snoc (s : Nat) (C : List (Int × Nat)) (c : Int × Nat) : lcmR s (C ++ [c]) = Nat.lcm (lcmR s C) c.2 := by unfold lcmR; rw [List.foldl_append]; rfl
theorem vc_at {F : List PrI} {C : List (Int × Nat)} (hF : F.map Prod.snd = vC C) {i : Nat} {p : PrI} (h : F[i]? = some p) : ∃ c, C[i]? = some c ∧ p.2 = (c.1, (c.2 : Int)) := by
  have := congrArg (fun l => l[i]?) hF
  rw [List.getElem?_map, h, List.getElem?_map] at this
  obtain ⟨c, h1, h2⟩ := Option.map_eq_some_iff.mp this.symm
  exact ⟨c, h1, h2.symm⟩
theorem take_succ' {α : Type} {l : List α} {i : Nat} {x : α} (h : l[i]? = some x) : l.take (i + 1) = l.take i ++ [x] := by
  obtain ⟨h1, h2⟩ := List.getElem?_eq_some_iff.mp h
  rw [List.take_succ_eq_append_getElem h1, h2]
def resR (L : Nat) (C : List (Int × Nat)) : List Int := C.map fun c => c.1 * ((L / c.2 : Nat) : Int)
theorem lcmG_snoc (s : Nat) (G : List (List (Int × Nat))) (C : List (Int × Nat)) : lcmG s (G ++ [C]) = lcmR (lcmG s G) C := by unfold lcmG; rw [List.foldl_append]; rfl
theorem lcmG_bd {e w : Nat} : ∀ {G : List (List (Int × Nat))} {s k : Nat}, (1 ≤ s ∧ s ≤ 2 ^ (e * k)) → (∀ C ∈ G, (∀ c ∈ C, 1 ≤ c.2 ∧ c.2 ≤ 2 ^ e) ∧ C.length = w) → 1 ≤ lcmG s G ∧ lcmG s G ≤ 2 ^ (e * (k + w * G.length))
  | [], s, k, hs, _ => hs
  | C :: G, s, k, hs, hG => by
    have h1 := lcmR_bd hs (hG C List.mem_cons_self).1
    rw [(hG C List.mem_cons_self).2] at h1
    have h2 := lcmG_bd (G := G) h1 fun D hD => hG D (List.mem_cons_of_mem _ hD)
    rw [List.length_cons, show k + w * (G.length + 1) = k + w + w * G.length by rw [Nat.mul_add]; omega]
    exact h2
end

/-! loops and lists that may end early -/
def Stp : Fl → Prop
  | .rt _ => True
  | .rs _ _ => True
  | _ => False
theorem forM_try {α : Type} {chk : Sto → Bool} {tg : Itm → St → Sto → R St} {ws : List Nat} {body : St → Sto → R Fl} {xs : List α} (g : α → Itm) (ok : α → Prop) (E : Fl → Sto → Prop) (hE : ∀ fl S, E fl S → Stp fl) :
    ∀ (st : Nat → St) (I : Nat → Sto → Prop) (hc : ∀ i S, I i S → chk S = true)
    (hs : ∀ i x S, xs[i]? = some x → I i S → ∃ σ1, tg (g x) (st i) S = .ok σ1 S ∧ ((ok x ∧ Tn (body σ1 S) fun σ2 S2 => wipe σ2 ws = st (i + 1) ∧ I (i + 1) S2) ∨ (¬ ok x ∧ ∃ fl S', body σ1 S = .ok fl S' ∧ E fl S'))) {S : Sto} (h0 : I 0 S),
    ((∀ x ∈ xs, ok x) ∧ ∃ S', Fx.forM chk tg ws body (xs.map g) (st 0) S = .ok (.nx (st xs.length)) S' ∧ I xs.length S') ∨ ((∃ x ∈ xs, ¬ ok x) ∧ ∃ fl S', Fx.forM chk tg ws body (xs.map g) (st 0) S = .ok fl S' ∧ E fl S') := by
  induction xs with
  | nil =>
    intro st I hc hs S h0
    exact .inl ⟨(fun _ h => nomatch h), S, by rw [List.map_nil, Fx.forM, if_pos (hc _ _ h0)]; rfl, h0⟩
  | cons x xs ih =>
    intro st I hc hs S h0
    obtain ⟨σ1, ht, hh⟩ := hs 0 x S rfl h0
    rcases hh with ⟨hx, hb⟩ | ⟨hx, fl, S', hb, hEE⟩
    · obtain ⟨σ2, S2, hb2, hw, hI⟩ := Tn.ex hb
      have step : Fx.forM chk tg ws body ((x :: xs).map g) (st 0) S = Fx.forM chk tg ws body (xs.map g) (st 1) S2 := by
        rw [List.map_cons, Fx.forM, if_pos (hc _ _ h0), ht, sE_ok]
        rcases hb2 with hb2 | hb2 <;> rw [hb2] <;> (dsimp only; rw [hw])
      rcases ih (fun i => st (i + 1)) (fun i => I (i + 1)) (fun i S h => hc _ _ h) (fun i y S hy h => hs (i + 1) y S hy h) hI with ⟨h1, S', h2, h3⟩ | ⟨⟨y, hy, h1⟩, fl, S', h2, h3⟩
      · refine .inl ⟨fun y hy => ?_, S', by rw [step]; exact h2, h3⟩
        rcases List.mem_cons.mp hy with rfl | hy
        · exact hx
        · exact h1 y hy
      · exact .inr ⟨⟨y, List.mem_cons_of_mem _ hy, h1⟩, fl, S', by rw [step]; exact h2, h3⟩
    · refine .inr ⟨⟨x, List.mem_cons_self, hx⟩, fl, S', ?_, hEE⟩
      rw [List.map_cons, Fx.forM, if_pos (hc _ _ h0), ht, sE_ok, hb]
      have := hE _ _ hEE
      cases fl with
      | rt v => rfl
      | rs c σ => rfl
      | _ => exact this.elim
theorem compX_try {α : Type} {M : List Nat} {S0 : Sto} {chk : Sto → Bool} {tg : Itm → St → Sto → R St} {te : St → Sto → R V} {σ : St} {c : String} (g : α → Itm) (ok : α → Prop) (P : Sto → α → V → Prop) (mono : ∀ S S' it v, Up M S S' → P S it v → P S' it v) (hc : ∀ S, Up M S0 S → chk S = true) :
    ∀ {xs : List α}, (∀ x ∈ xs, ∀ S, Up M S0 S → ∃ σ1, tg (g x) σ S = .ok σ1 S ∧ ((ok x ∧ ∃ v S', te σ1 S = .ok v S' ∧ Up M S S' ∧ P S' x v) ∨ (¬ ok x ∧ ∃ S', te σ1 S = .exc c S' ∧ Up M S S'))) →
    ∀ S, Up M S0 S → ((∀ x ∈ xs, ok x) ∧ ∃ vs S', compX chk tg tYs te (xs.map g) σ S = .ok vs S' ∧ Up M S S' ∧ Paired (P S') xs vs) ∨ ((∃ x ∈ xs, ¬ ok x) ∧ ∃ S', compX chk tg tYs te (xs.map g) σ S = .exc c S' ∧ Up M S S')
  | [], _, S, h0 => .inl ⟨(fun _ h => nomatch h), [], S, by simp [compX, hc S h0], Up.refl M S, .nil⟩
  | x :: xs, h, S, h0 => by
    obtain ⟨σ1, ht, hh⟩ := h x List.mem_cons_self S h0
    rcases hh with ⟨hx, v, S1, he, hu, hp⟩ | ⟨hx, S1, he, hu⟩
    · have step : compX chk tg tYs te ((x :: xs).map g) σ S = (compX chk tg tYs te (xs.map g) σ S1).bind fun ys S4 => .ok (v :: ys) S4 := by
        rw [List.map_cons, compX, if_pos (hc S h0), ht]
        simp only [R.nox_ok, R.bind_ok, tYs_eq, if_true, he]
      rcases compX_try (xs := xs) g ok P mono hc (fun y hy => h y (List.mem_cons_of_mem _ hy)) S1 (h0.trans hu) with ⟨h1, vs, S2, h2, h3, h4⟩ | ⟨⟨y, hy, h1⟩, S2, h2, h3⟩
      · refine .inl ⟨fun y hy => ?_, v :: vs, S2, by rw [step, h2]; rfl, hu.trans h3, .cons (mono _ _ _ _ h3 hp) h4⟩
        rcases List.mem_cons.mp hy with rfl | hy
        · exact hx
        · exact h1 y hy
      · exact .inr ⟨⟨y, List.mem_cons_of_mem _ hy, h1⟩, S2, by rw [step, h2]; rfl, hu.trans h3⟩
    · refine .inr ⟨⟨x, List.mem_cons_self, hx⟩, S1, ?_, hu⟩
      rw [List.map_cons, compX, if_pos (hc S h0), ht]
      simp only [R.nox_ok, R.bind_ok, tYs_eq, if_true, he]
      rfl

/-! figures of any text -/
section
open PySem.StrLaws PySem.Builtin PySem.Builtin.Str PySem.NumText
abbrev LoS (x : Str) : Prop := ∀ c ∈ x.cps.toList, c < 256
theorem str_len (x : Str) : x.cps.toList.length = x.length := Array.length_toList
theorem LoS.sh {x : Str} (h : LoS x) : SeqAt.shaped (.str x) = true := sh_str h
def FigOk (w : Str) : Prop := (w.cps.toList ≠ [] ∧ w.length ≤ 30) ∧ ¬ (1 < w.length ∧ w.cps.toList[0]? = some 48) ∧ AllDigits w.cps.toList
open Classical in
noncomputable def pFig (w : Str) : Option Nat := if FigOk w then some (digitsVal w.cps.toList) else none
theorem pFig_no {w : Str} (h : ¬ FigOk w) : pFig w = none := by unfold pFig; rw [if_neg h]
theorem pFig_yes {w : Str} (h : FigOk w) : pFig w = some (digitsVal w.cps.toList) := by unfold pFig; rw [if_pos h]
theorem digits_lt (cs : List Nat) (h : AllDigits cs) : digitsVal cs < 10 ^ cs.length := by
  have key : ∀ (cs : List Nat) (a : Nat), AllDigits cs → cs.foldl (fun acc c => acc * 10 + (c - 48)) a + 1 ≤ (a + 1) * 10 ^ cs.length := by
    intro cs
    induction cs with
    | nil => intro a _; simp
    | cons c cs ih =>
      intro a h
      have hc := h c List.mem_cons_self
      have := ih (a * 10 + (c - 48)) fun d hd => h d (List.mem_cons_of_mem _ hd)
      rw [List.foldl_cons, List.length_cons, Nat.pow_succ]
      have h2 : (a * 10 + (c - 48) + 1) * 10 ^ cs.length ≤ (a + 1) * 10 * 10 ^ cs.length := Nat.mul_le_mul_right _ (by omega)
      rw [Nat.mul_comm (10 ^ cs.length) 10, ← Nat.mul_assoc]
      omega
  have := key cs 0 h
  unfold digitsVal
  omega
theorem pFig_lt {w : Str} {n : Nat} (h : pFig w = some n) : n < 10 ^ w.length ∧ n < 10 ^ 30 := by
  unfold pFig at h
  split at h
  · rename_i hf
    cases h
    have := digits_lt _ hf.2.2
    rw [str_len] at this
    exact ⟨this, Nat.lt_of_lt_of_le this (Nat.pow_le_pow_right (by decide) hf.1.2)⟩
  · cases h
theorem empty_iff {w : Str} : w = PySem.Str.ofString "" ↔ w.cps.toList = [] := by
  constructor
  · intro h; rw [h]; decide +kernel
  · intro h; exact Str.ext' (Array.toList_inj.mp (by rw [h]; decide +kernel))
theorem one_is0 {d : Nat} : (⟨#[d]⟩ : Str) = PySem.Str.ofString "0" ↔ d = 48 := by
  constructor
  · intro h
    have := congrArg (fun s : Str => s.cps.toList) h
    rw [show (PySem.Str.ofString "0").cps.toList = [48] from by decide +kernel] at this
    simpa using this
  · intro h; rw [h]; decide +kernel
theorem fig_has (c : Nat) : (!(PySem.Builtin.Str.occurrences (PySem.Str.ofString "0123456789") ⟨#[c]⟩ 0 (PySem.Str.ofString "0123456789").length 1).isEmpty) = decide (48 ≤ c ∧ c ≤ 57) := by
  rw [PySem.StrLaws.found_one, show (PySem.Str.ofString "0123456789").cps.toList = [48, 49, 50, 51, 52, 53, 54, 55, 56, 57] from by decide +kernel]
  apply decide_eq_decide.mpr
  simp only [List.mem_cons, List.not_mem_nil, or_false]
  omega
theorem first_ix {S : Sto} {w : Str} (hz : w.length ≤ 640) (h0 : w.cps.toList ≠ []) : ∃ d, w.cps.toList[0]? = some d ∧ ixM (.str w) (.int 0) S = .ok (.str ⟨#[d]⟩) S := by
  obtain ⟨d, ds, e⟩ := List.exists_cons_of_ne_nil h0
  refine ⟨d, by rw [e]; rfl, ?_⟩
  show ixS w (.int 0) S = _
  unfold ixS
  dsimp only
  rw [if_pos (by unfold lim; omega), e]
  simp [atI, ixN]
theorem len_str {S : Sto} {w : Str} (hz : w.length ≤ 640) : lenM [.str w] S = .ok (.int (w.length : Int)) S := by
  unfold lenM
  dsimp only
  rw [if_pos (by unfold lim; omega)]
theorem int_str {S : Sto} {w : Str} (hf : FigOk w) : intSM [.str w] S = .ok (.int ((digitsVal w.cps.toList : Nat) : Int)) S := by
  have hl := hf.1.2
  unfold intSM
  dsimp only
  rw [intText_digits hf.2.2 hf.1.1 (by omega)]
  dsimp only
  rw [if_pos (by omega)]
theorem sign_at {w : Str} {i : Nat} (hi : i < w.cps.size) : w.cps.toList[i]? = some (w.cps.getD i 0) := by
  rw [Array.getD_eq_getD_getElem?, Array.getElem?_eq_getElem hi, Array.getElem?_toList, Array.getElem?_eq_getElem hi]; rfl
theorem read_figures_any {S : Sto} {w : Str} (hl : LoS w) (hz : w.length ≤ 640) :
    (∃ n, pFig w = some n ∧ r_read_figures [.str w] S = .ok (.int (n : Int)) S) ∨ (pFig w = none ∧ r_read_figures [.str w] S = .exc "NoText" S) := by
  have q0 := eqM_str hl.sh (sh_str (low_of (s := PySem.Str.ofString "") (by decide +kernel))) S
  by_cases c0 : w.cps.toList = []
  · have c0' := empty_iff.mpr c0
    refine .inr ⟨pFig_no fun h => h.1.1 c0, ?_⟩
    rw [decide_eq_true c0'] at q0
    simp (decide := true) only [ev, ex9, exA, exB, exD, exI, exJ, decide_true, decide_false, Bool.not_true, Bool.not_false, not_true, not_false_iff, eq_self, List.length_map, if_true, if_false, Bool.false_eq_true, r_read_figures_eq, c_read_figures, q0]
  · have c0' : ¬ w = PySem.Str.ofString "" := fun h => c0 (empty_iff.mp h)
    have ln := len_str (S := S) hz
    by_cases c1 : (w.length : Int) > 30
    · refine .inr ⟨pFig_no fun h => by have := h.1.2; omega, ?_⟩
      simp (decide := true) only [ev, ex9, exA, exB, exD, exI, exJ, decide_true, decide_false, Bool.not_true, Bool.not_false, not_true, not_false_iff, eq_self, List.length_map, if_true, if_false, Bool.false_eq_true, r_read_figures_eq, c_read_figures, q0, c0', ln, c1]
    · obtain ⟨d, hd, x0⟩ := first_ix (S := S) hz c0
      have dl : d < 256 := hl d (List.mem_of_getElem? hd)
      have q1 := eqM_str (s := ⟨#[d]⟩) (t := PySem.Str.ofString "0") (sh_str (fun c hc => by
        have : c = d := by simpa using hc
        omega)) (sh_str (low_of (by decide +kernel))) S
      have tst : ∃ b : Bool, (tO (tV (eO eqM (eV 0) (eC (.str (PySem.Str.ofString ""))))) (tO (tV (eO gtM (eA lenM (aCons (eV 0) aNil)) (eC (.int 30)))) (tAn (tV (eO gtM (eA lenM (aCons (eV 0) aNil)) (eC (.int 1)))) (tV (eO eqM (eO ixM (eV 0) (eC (.int 0))) (eC (.str (PySem.Str.ofString "0")))))))) [some (.str w), none] S = .ok b S ∧ (b = true ↔ (1 < w.length ∧ w.cps.toList[0]? = some 48)) := by
        by_cases c2 : (w.length : Int) > 1
        · by_cases c3 : d = 48
          · have c3' := one_is0.mpr c3
            exact ⟨true, by rw [decide_eq_true c3'] at q1; simp (decide := true) only [ev, ex9, exA, exB, exD, exI, exJ, decide_true, decide_false, Bool.not_true, Bool.not_false, not_true, not_false_iff, eq_self, List.length_map, if_true, if_false, Bool.false_eq_true, q0, c0', ln, c1, c2, x0, q1], by rw [hd, c3]; simp; omega⟩
          · have c3' : ¬ (⟨#[d]⟩ : Str) = PySem.Str.ofString "0" := fun h => c3 (one_is0.mp h)
            exact ⟨false, by rw [decide_eq_false c3'] at q1; simp (decide := true) only [ev, ex9, exA, exB, exD, exI, exJ, decide_true, decide_false, Bool.not_true, Bool.not_false, not_true, not_false_iff, eq_self, List.length_map, if_true, if_false, Bool.false_eq_true, q0, c0', ln, c1, c2, x0, q1], by rw [hd]; simp; omega⟩
        · exact ⟨false, by simp (decide := true) only [ev, ex9, exA, exB, exD, exI, exJ, decide_true, decide_false, Bool.not_true, Bool.not_false, not_true, not_false_iff, eq_self, List.length_map, if_true, if_false, Bool.false_eq_true, q0, c0', ln, c1, c2], by simp; omega⟩
      obtain ⟨b, eb, hb⟩ := tst
      generalize hT : (tO (tV (eO eqM (eV 0) (eC (.str (PySem.Str.ofString ""))))) (tO (tV (eO gtM (eA lenM (aCons (eV 0) aNil)) (eC (.int 30)))) (tAn (tV (eO gtM (eA lenM (aCons (eV 0) aNil)) (eC (.int 1)))) (tV (eO eqM (eO ixM (eV 0) (eC (.int 0))) (eC (.str (PySem.Str.ofString "0")))))))) = TT at eb
      have hcut : c_read_figures = (sSq (sIf TT (sRs "NoText") sNx) (sSq (sFor (iS (eV 0)) (gI1 1) [1] b_read_figures_1) (sRet (eA intSM (aCons (eV 0) aNil))))) := by rw [← hT]; rfl
      cases b with
      | true =>
        refine .inr ⟨pFig_no fun h => h.2.1 (hb.mp rfl), ?_⟩
        simp (decide := true) only [ev, ex9, exA, exB, exD, exI, exJ, decide_true, decide_false, Bool.not_true, Bool.not_false, not_true, not_false_iff, eq_self, List.length_map, if_true, if_false, Bool.false_eq_true, r_read_figures_eq, hcut, eb]
      | false =>
        have hnz : ¬ (1 < w.length ∧ w.cps.toList[0]? = some 48) := fun h => by have := hb.mpr h; cases this
        have lp := forM_try (chk := chkY) (tg := gI1 1) (ws := [1]) (body := b_read_figures_1) (xs := List.range w.cps.size) (fun i => Itm.one (.str ⟨#[w.cps.getD i 0]⟩)) (fun i => 48 ≤ w.cps.getD i 0 ∧ w.cps.getD i 0 ≤ 57) (fun fl S' => (∃ σ, fl = .rs "NoText" σ) ∧ S' = S) (fun fl _ h => by obtain ⟨⟨σ, rfl⟩, _⟩ := h; trivial)
          (fun _ => [some (.str w), none]) (fun _ S' => S' = S) (fun _ _ _ => rfl) (fun i x S' hx hS => by
            subst hS
            refine ⟨_, gI1_one _ _ _ _, ?_⟩
            have hf := fig_has (w.cps.getD x 0)
            by_cases c : 48 ≤ w.cps.getD x 0 ∧ w.cps.getD x 0 ≤ 57
            · refine .inl ⟨c, ?_⟩
              rw [decide_eq_true c] at hf
              simp (decide := true) only [ev, ex9, exA, exB, exD, exI, exJ, decide_true, decide_false, Bool.not_true, Bool.not_false, not_true, not_false_iff, eq_self, List.length_map, if_true, if_false, Bool.false_eq_true, b_read_figures_1, inSM, hf, Tn_nx]
            · refine .inr ⟨c, ?_⟩
              rw [decide_eq_false c] at hf
              refine ⟨.rs "NoText" [some (.str w), some (.str ⟨#[w.cps.getD x 0]⟩)], S', ?_, ⟨_, rfl⟩, rfl⟩
              simp (decide := true) only [ev, ex9, exA, exB, exD, exI, exJ, decide_true, decide_false, Bool.not_true, Bool.not_false, not_true, not_false_iff, eq_self, List.length_map, if_true, if_false, Bool.false_eq_true, b_read_figures_1, inSM, hf]) (S := S) rfl
        have hk := kIS_ok (show w.cps.size ≤ 640 from hz)
        rcases lp with ⟨hall, S', e1, rfl⟩ | ⟨⟨i, hi, hbad⟩, fl, S', e1, ⟨σ, rfl⟩, rfl⟩
        · have hf : FigOk w := ⟨⟨c0, by omega⟩, hnz, fun c hc => by
            obtain ⟨i, hi⟩ := List.mem_iff_getElem?.mp hc
            have hlt : i < w.cps.size := by
              have := (List.getElem?_eq_some_iff.mp hi).1
              rwa [Array.length_toList] at this
            rw [sign_at hlt] at hi
            cases hi
            exact hall i (List.mem_range.mpr hlt)⟩
          refine .inl ⟨_, pFig_yes hf, ?_⟩
          have iS' := int_str (S := S') hf
          unfold strI at hk
          simp (decide := true) only [ev, ex9, exA, exB, exD, exI, exJ, decide_true, decide_false, Bool.not_true, Bool.not_false, not_true, not_false_iff, eq_self, List.length_map, if_true, if_false, Bool.false_eq_true, r_read_figures_eq, hcut, eb, hk, e1, iS']
        · refine .inr ⟨pFig_no fun h => hbad (h.2.2 _ (List.mem_of_getElem? (sign_at (List.mem_range.mp hi)))), ?_⟩
          unfold strI at hk
          simp (decide := true) only [ev, ex9, exA, exB, exD, exI, exJ, decide_true, decide_false, Bool.not_true, Bool.not_false, not_true, not_false_iff, eq_self, List.length_map, if_true, if_false, Bool.false_eq_true, r_read_figures_eq, hcut, eb, hk, e1]
end

/-! fractions of any text -/
section
open PySem.StrLaws PySem.Builtin PySem.Builtin.Str PySem.NumText
theorem part_any {x : Str} {t s b : Str} (h : Txt.partition x sSl = (t, s, b)) : x.cps.toList = t.cps.toList ++ (s.cps.toList ++ b.cps.toList) ∧ ((s = Str.empty ∧ b = Str.empty) ∨ s = sSl) := by
  unfold Txt.partition at h
  rcases occ_head x sSl 1 (Nat.le_refl 1) with ⟨e, _⟩ | ⟨i, r, e, hat, _⟩
  · rw [e] at h
    cases h
    exact ⟨by simp [Str.empty], .inl ⟨rfl, rfl⟩⟩
  · rw [e] at h
    cases h
    have hat' : At x ⟨#[47]⟩ x.length i := by rw [← sSl_c]; exact hat
    have h3 := (subAt_one x 47 i).mp hat'
    obtain ⟨hi, h4⟩ := List.getElem?_eq_some_iff.mp h3
    refine ⟨?_, .inr rfl⟩
    have s1 : (strSub x 0 i).cps.toList = x.cps.toList.take i := by rw [strSub_toList]; simp
    have s2 : (strSub x (i + sSl.length) x.length).cps.toList = x.cps.toList.drop (i + 1) := by
      rw [strSub_toList, show sSl.length = 1 from by decide +kernel]
      exact List.take_of_length_le (by rw [List.length_drop, str_len]; omega)
    rw [s1, s2, sSl_l, ← h4]
    show _ = x.cps.toList.take i ++ (x.cps.toList[i] :: x.cps.toList.drop (i + 1))
    rw [← List.drop_eq_getElem_cons hi, List.take_append_drop]
noncomputable def pR3 (neg : Bool) (p : Str × Str × Str) : Option (Int × Nat) :=
  if neg = true ∧ p.1 = PySem.Str.ofString "0" then none else
  match pFig p.1 with
  | none => none
  | some n => if p.2.1 = Str.empty then some ((if neg = true then -(n : Int) else n), 1) else
    match pFig p.2.2 with
    | none => none
    | some m => if 2 ≤ m ∧ Nat.gcd m n = 1 then some ((if neg = true then -(n : Int) else n), m) else none
noncomputable def pRest (neg : Bool) (u : Str) : Option (Int × Nat) := pR3 neg (Txt.partition u sSl)
def tlS (w : Str) : Str := ⟨w.cps.toList.tail.toArray⟩
noncomputable def pFrac (w : Str) : Option (Int × Nat) := if w.cps.toList[0]? = some 45 then pRest true (tlS w) else pRest false w
theorem emp_ne : ¬ sSl = Str.empty := by decide +kernel
theorem cR_any {S : Sto} {u : Str} {neg : Bool} (hl : LoS u) (hz : u.length ≤ 640) :
    (∃ (c : Int × Nat) (S' : Sto) (q : Nat), pRest neg u = some c ∧ cR [some (.str u), some (.int (if neg = true then -1 else 1)), none, none, none, none] S = .ok (.rt (.ref q)) S' ∧ Up [] S S' ∧ S'[q]? = some (.tup [.int c.1, .int (c.2 : Int)])) ∨
    (pRest neg u = none ∧ ∃ (σ : St) (S' : Sto), cR [some (.str u), some (.int (if neg = true then -1 else 1)), none, none, none, none] S = .ok (.rs "NoText" σ) S' ∧ Up [] S S') := by
  obtain ⟨t, s, b, hP⟩ : ∃ t s b, Txt.partition u sSl = (t, s, b) := ⟨_, _, _, rfl⟩
  obtain ⟨hcat, hs⟩ := part_any hP
  have lt : LoS t := fun c hc => hl c (by rw [hcat]; exact List.mem_append_left _ hc)
  have lb : LoS b := fun c hc => hl c (by rw [hcat]; exact List.mem_append_right _ (List.mem_append_right _ hc))
  have lens : t.length ≤ 640 ∧ b.length ≤ 640 := by
    have := congrArg List.length hcat
    rw [List.length_append, List.length_append, str_len, str_len, str_len, str_len] at this
    omega
  unfold pRest
  rw [hP]
  have pm : partM (.str u) [.str sSl] S = .ok (.ref S.length) (S ++ [.tup [.str t, .str s, .str b]]) := by
    unfold partM
    dsimp only
    rw [if_pos ⟨by decide +kernel, by unfold lim; omega⟩, hP]; rfl
  have sl : PySem.Str.ofString "/" = sSl := rfl
  have q1 := snew S (.tup [.str t, .str s, .str b])
  have u1 := Up.app [] S [.tup [.str t, .str s, .str b]]
  generalize S ++ [Ob.tup [.str t, .str s, .str b]] = S1 at pm q1 u1
  have qz := eqM_str lt.sh (sh_str (low_of (s := PySem.Str.ofString "0") (by decide +kernel))) S1
  have tst : (tAn (tV (eO eqM (eV 1) (eU negM (eC (.int 1))))) (tV (eO eqM (eV 2) (eC (.str (PySem.Str.ofString "0")))))) [some (.str u), some (.int (if neg = true then -1 else 1)), some (.str t), some (.str s), some (.str b), none] S1 = .ok (decide (neg = true ∧ t = PySem.Str.ofString "0")) S1 := by
    cases neg with
    | false => simp (decide := true) only [ev, ex9, exA, exB, exD, exI, exJ, decide_true, decide_false, Bool.not_true, Bool.not_false, not_true, not_false_iff, eq_self, List.length_map, if_true, if_false, Bool.false_eq_true, qz, false_and]
    | true =>
      by_cases c : t = PySem.Str.ofString "0"
      · rw [decide_eq_true c] at qz
        rw [decide_eq_true ⟨rfl, c⟩]
        simp (decide := true) only [ev, ex9, exA, exB, exD, exI, exJ, decide_true, decide_false, Bool.not_true, Bool.not_false, not_true, not_false_iff, eq_self, List.length_map, if_true, if_false, Bool.false_eq_true, qz]
      · rw [decide_eq_false c] at qz
        rw [decide_eq_false (fun h => c h.2)]
        simp (decide := true) only [ev, ex9, exA, exB, exD, exI, exJ, decide_true, decide_false, Bool.not_true, Bool.not_false, not_true, not_false_iff, eq_self, List.length_map, if_true, if_false, Bool.false_eq_true, qz]
  generalize hT : (tAn (tV (eO eqM (eV 1) (eU negM (eC (.int 1))))) (tV (eO eqM (eV 2) (eC (.str (PySem.Str.ofString "0")))))) = TT at tst
  have hcut : cR = (sSq (sAs (gU [2, 3, 4]) (eM isSt partM (eV 0) (aCons (eC (.str (PySem.Str.ofString "/"))) aNil)))
    (sSq (sIf TT
    (sRs "NoText")
    sNx)
    (sSq (sIf (tV (eO eqM (eV 3) (eC (.str (PySem.Str.ofString "")))))
    (sRet (eTup (aCons (eO mulM (eV 1) (eCl 1 r_read_figures (aCons (eV 2) aNil))) (aCons (eC (.int 1)) aNil))))
    sNx)
    (sSq (sSet 5 (eTup (aCons (eO mulM (eV 1) (eCl 1 r_read_figures (aCons (eV 2) aNil))) (aCons (eCl 1 r_read_figures (aCons (eV 4) aNil)) aNil))))
    (sSq (sIf (tO (tV (eO ltM (eO ixM (eV 5) (eC (.int 1))) (eC (.int 2)))) (tV (eO neM (eCl 2 r_shared_with (aCons (eO ixM (eV 5) (eC (.int 1))) (aCons (eO ixM (eV 5) (eC (.int 0))) aNil))) (eC (.int 1)))))
    (sRs "NoText")
    sNx)
    (sRet (eV 5))))))) := by rw [← hT]; rfl
  unfold pR3
  dsimp only
  by_cases c0 : neg = true ∧ t = PySem.Str.ofString "0"
  · rw [decide_eq_true c0] at tst
    rw [if_pos c0]
    refine .inr ⟨rfl, ?_⟩
    simp (decide := true) only [ev, ex9, exA, exB, exD, exI, exJ, decide_true, decide_false, Bool.not_true, Bool.not_false, not_true, not_false_iff, eq_self, List.length_map, if_true, if_false, Bool.false_eq_true, hcut, sl, isSt, pm, rdLT_tup q1, kGT3, tst]
    exact ⟨_, _, rfl, u1⟩
  · rw [decide_eq_false c0] at tst
    rw [if_neg c0]
    generalize hsg : (if neg = true then (-1 : Int) else 1) = sg at tst ⊢
    have hsg1 : sg = 1 ∨ sg = -1 := by cases neg <;> simp at hsg <;> omega
    have hsn : ∀ n : Nat, (if neg = true then -(n : Int) else (n : Int)) = sg * (n : Int) := fun n => by rw [← hsg]; cases neg <;> simp
    have ml : ∀ n : Nat, mulM (.int sg) (.int (n : Int)) = fun S => .ok (.int (sg * n)) S := fun n => by funext S; exact mulM_l (by omega) S
    rcases hs with ⟨rfl, rfl⟩ | rfl
    · have e0 : eqM (.str Str.empty) (.str (PySem.Str.ofString "")) S1 = .ok (.bl true) S1 := by
        rw [eq_str2 (fun c hc => by simp [Str.empty] at hc) (by decide +kernel), decide_eq_true (by decide +kernel)]
      rcases read_figures_any (S := S1) lt lens.1 with ⟨n, hn, rf⟩ | ⟨hn, rf⟩
      · rw [hn]
        dsimp only
        rw [if_pos rfl, hsn]
        refine .inl ⟨(sg * (n : Int), 1), S1 ++ [.tup [.int (sg * (n : Int)), .int 1]], S1.length, rfl, ?_, u1.trans (Up.app _ _ _), snew _ _⟩
        simp (decide := true) only [ev, ex9, exA, exB, exD, exI, exJ, decide_true, decide_false, Bool.not_true, Bool.not_false, not_true, not_false_iff, eq_self, List.length_map, if_true, if_false, Bool.false_eq_true, hcut, sl, isSt, pm, rdLT_tup q1, kGT3, tst, e0, rf, ml]
      · rw [hn]
        refine .inr ⟨rfl, ?_⟩
        simp (decide := true) only [ev, ex9, exA, exB, exD, exI, exJ, decide_true, decide_false, Bool.not_true, Bool.not_false, not_true, not_false_iff, eq_self, List.length_map, if_true, if_false, Bool.false_eq_true, hcut, sl, isSt, pm, rdLT_tup q1, kGT3, tst, e0, rf]
        exact ⟨_, _, rfl, u1⟩
    · have e0 : eqM (.str sSl) (.str (PySem.Str.ofString "")) S1 = .ok (.bl false) S1 := by
        rw [eq_str2 (low_of (by decide +kernel)) (by decide +kernel), decide_eq_false (by decide +kernel)]
      rcases read_figures_any (S := S1) lt lens.1 with ⟨n, hn, rf⟩ | ⟨hn, rf⟩
      · rw [hn]
        dsimp only
        rw [if_neg emp_ne]
        rcases read_figures_any (S := S1) lb lens.2 with ⟨m, hm, rf2⟩ | ⟨hm, rf2⟩
        · rw [hm]
          dsimp only
          have u2 := Up.app [] S1 [.tup [.int (sg * n), .int (m : Int)]]
          have q2 := snew S1 (.tup [.int (sg * n), .int (m : Int)])
          have x1 := ixQ_int (i := 1) (v := .int (m : Int)) (rdLT_tup q2) (by decide) rfl
          have x0 := ixQ_int (i := 0) (v := .int (sg * n)) (rdLT_tup q2) (by decide) rfl
          by_cases c2 : m < 2
          · rw [if_neg (by omega)]
            refine .inr ⟨rfl, ?_⟩
            simp (decide := true) only [ev, ex9, exA, exB, exD, exI, exJ, decide_true, decide_false, Bool.not_true, Bool.not_false, not_true, not_false_iff, eq_self, List.length_map, if_true, if_false, Bool.false_eq_true, hcut, sl, isSt, pm, rdLT_tup q1, kGT3, tst, e0, rf, rf2, ml, x1, x0, show (m : Int) < 2 by omega]
            exact ⟨_, _, rfl, u1.trans u2⟩
          · have hab : (sg * (n : Int)).natAbs = n := by rcases hsg1 with rfl | rfl <;> simp
            have sw := shared_with_spec (S := S1 ++ [.tup [.int (sg * n), .int (m : Int)]]) (b := m) (by omega) (sg * n)
            rw [hab] at sw
            by_cases c3 : Nat.gcd m n = 1
            · rw [if_pos ⟨by omega, c3⟩, hsn]
              refine .inl ⟨_, _, _, rfl, ?_, u1.trans u2, q2⟩
              simp (decide := true) only [ev, ex9, exA, exB, exD, exI, exJ, decide_true, decide_false, Bool.not_true, Bool.not_false, not_true, not_false_iff, eq_self, List.length_map, if_true, if_false, Bool.false_eq_true, hcut, sl, isSt, pm, rdLT_tup q1, kGT3, tst, e0, rf, rf2, ml, x1, x0, show ¬ (m : Int) < 2 by omega, sw, show ((Nat.gcd m n : Nat) : Int) = 1 by omega]
            · rw [if_neg (fun h => c3 h.2)]
              refine .inr ⟨rfl, ?_⟩
              simp (decide := true) only [ev, ex9, exA, exB, exD, exI, exJ, decide_true, decide_false, Bool.not_true, Bool.not_false, not_true, not_false_iff, eq_self, List.length_map, if_true, if_false, Bool.false_eq_true, hcut, sl, isSt, pm, rdLT_tup q1, kGT3, tst, e0, rf, rf2, ml, x1, x0, show ¬ (m : Int) < 2 by omega, sw, show ¬ ((Nat.gcd m n : Nat) : Int) = 1 by omega]
              exact ⟨_, _, rfl, u1.trans u2⟩
        · rw [hm]
          refine .inr ⟨rfl, ?_⟩
          simp (decide := true) only [ev, ex9, exA, exB, exD, exI, exJ, decide_true, decide_false, Bool.not_true, Bool.not_false, not_true, not_false_iff, eq_self, List.length_map, if_true, if_false, Bool.false_eq_true, hcut, sl, isSt, pm, rdLT_tup q1, kGT3, tst, e0, rf, rf2, ml]
          exact ⟨_, _, rfl, u1⟩
      · rw [hn]
        refine .inr ⟨rfl, ?_⟩
        simp (decide := true) only [ev, ex9, exA, exB, exD, exI, exJ, decide_true, decide_false, Bool.not_true, Bool.not_false, not_true, not_false_iff, eq_self, List.length_map, if_true, if_false, Bool.false_eq_true, hcut, sl, isSt, pm, rdLT_tup q1, kGT3, tst, e0, rf]
        exact ⟨_, _, rfl, u1⟩
theorem tl_cons {w : Str} (h : w.cps.toList[0]? = some 45) : w.cps.toList = 45 :: (tlS w).cps.toList := by
  unfold tlS
  cases e : w.cps.toList with
  | nil => rw [e] at h; cases h
  | cons c r => rw [e] at h; cases h; rfl
theorem read_fraction_any {S : Sto} {w : Str} (hl : LoS w) (hz : w.length ≤ 640) :
    (∃ (c : Int × Nat) (S' : Sto) (q : Nat), pFrac w = some c ∧ r_read_fraction [.str w] S = .ok (.ref q) S' ∧ Up [] S S' ∧ S'[q]? = some (.tup [.int c.1, .int (c.2 : Int)])) ∨ (pFrac w = none ∧ ∃ S', r_read_fraction [.str w] S = .exc "NoText" S' ∧ Up [] S S') := by
  have st : startsM (.str w) [.str (PySem.Str.ofString "-")] S = .ok (.bl (decide (w.cps.toList[0]? = some 45))) S := by
    unfold startsM
    dsimp only
    rw [starts_iff]
  unfold pFrac
  by_cases h : w.cps.toList[0]? = some 45
  · have e := tl_cons h
    rw [decide_eq_true h] at st
    rw [if_pos h]
    have hl2 : LoS (tlS w) := fun c hc => hl c (by rw [e]; exact List.mem_cons_of_mem _ hc)
    have hz2 : (tlS w).length ≤ 640 := by
      have := congrArg List.length e
      rw [List.length_cons, str_len, str_len] at this
      omega
    have ct : cutM (.str w) (some 1) none S = .ok (.str (tlS w)) S := by
      simp only [cutM, show w.length ≤ lim by unfold lim; omega, if_true, cut_one e]
    rcases cR_any (S := S) (neg := true) hl2 hz2 with ⟨c, S', q, e0, e1, u, k⟩ | ⟨e0, σ, S', e1, u⟩
    · simp only [if_true] at e1
      refine .inl ⟨c, S', q, e0, ?_, u, k⟩
      simp (decide := true) only [ev, ex9, exA, exB, exD, exI, exJ, decide_true, decide_false, Bool.not_true, Bool.not_false, not_true, not_false_iff, eq_self, List.length_map, if_true, if_false, Bool.false_eq_true, r_read_fraction_eq, c_read_fraction_cut, isSt, st, ct, e1]
    · simp only [if_true] at e1
      refine .inr ⟨e0, S', ?_, u⟩
      simp (decide := true) only [ev, ex9, exA, exB, exD, exI, exJ, decide_true, decide_false, Bool.not_true, Bool.not_false, not_true, not_false_iff, eq_self, List.length_map, if_true, if_false, Bool.false_eq_true, r_read_fraction_eq, c_read_fraction_cut, isSt, st, ct, e1]
  · rw [decide_eq_false h] at st
    rw [if_neg h]
    rcases cR_any (S := S) (neg := false) hl hz with ⟨c, S', q, e0, e1, u, k⟩ | ⟨e0, σ, S', e1, u⟩
    · simp only [Bool.false_eq_true, if_false] at e1
      refine .inl ⟨c, S', q, e0, ?_, u, k⟩
      simp (decide := true) only [ev, ex9, exA, exB, exD, exI, exJ, decide_true, decide_false, Bool.not_true, Bool.not_false, not_true, not_false_iff, eq_self, List.length_map, if_true, if_false, Bool.false_eq_true, r_read_fraction_eq, c_read_fraction_cut, isSt, st, e1]
    · simp only [Bool.false_eq_true, if_false] at e1
      refine .inr ⟨e0, S', ?_, u⟩
      simp (decide := true) only [ev, ex9, exA, exB, exD, exI, exJ, decide_true, decide_false, Bool.not_true, Bool.not_false, not_true, not_false_iff, eq_self, List.length_map, if_true, if_false, Bool.false_eq_true, r_read_fraction_eq, c_read_fraction_cut, isSt, st, e1]
theorem pR3_frc {neg : Bool} {p : Str × Str × Str} {c : Int × Nat} (h : pR3 neg p = some c) : Frc c ∧ c.2 ≤ 10 ^ p.2.2.length := by
  unfold pR3 at h
  split at h
  · cases h
  · split at h
    · cases h
    · rename_i n hn
      have hn30 := (pFig_lt hn).2
      have ab : (if neg = true then -(n : Int) else (n : Int)).natAbs = n := by cases neg <;> simp
      split at h
      · cases h
        exact ⟨⟨⟨Nat.le_refl 1, by dsimp only; decide⟩, by dsimp only; rw [ab]; exact hn30, by simp⟩, Nat.one_le_pow _ _ (by decide)⟩
      · split at h
        · cases h
        · rename_i m hm
          split at h
          · rename_i hc
            cases h
            exact ⟨⟨⟨by dsimp only; omega, (pFig_lt hm).2⟩, by dsimp only; rw [ab]; exact hn30, by dsimp only; rw [ab]; exact hc.2⟩, Nat.le_of_lt (pFig_lt hm).1⟩
          · cases h
theorem pRest_frc {neg : Bool} {u : Str} {c : Int × Nat} (h : pRest neg u = some c) : Frc c ∧ c.2 ≤ 10 ^ u.length := by
  unfold pRest at h
  obtain ⟨t, s, b, hP⟩ : ∃ t s b, Txt.partition u sSl = (t, s, b) := ⟨_, _, _, rfl⟩
  obtain ⟨hcat, _⟩ := part_any hP
  rw [hP] at h
  obtain ⟨h1, h2⟩ := pR3_frc h
  refine ⟨h1, Nat.le_trans h2 (Nat.pow_le_pow_right (by decide) ?_)⟩
  have := congrArg List.length hcat
  rw [List.length_append, List.length_append, str_len, str_len, str_len, str_len] at this
  dsimp only
  omega
theorem pFrac_frc {w : Str} {c : Int × Nat} (h : pFrac w = some c) : Frc c ∧ c.2 ≤ 10 ^ w.length := by
  unfold pFrac at h
  split at h
  · rename_i hw
    have e := congrArg List.length (tl_cons hw)
    rw [List.length_cons, str_len, str_len] at e
    obtain ⟨h1, h2⟩ := pRest_frc h
    exact ⟨h1, Nat.le_trans h2 (Nat.pow_le_pow_right (by decide) (by omega))⟩
  · exact pRest_frc h
end

/-! bottoms that divide -/
theorem lcmR_dvd : ∀ (C : List (Int × Nat)) (s : Nat), s ∣ lcmR s C ∧ ∀ c ∈ C, c.2 ∣ lcmR s C
  | [], s => ⟨Nat.dvd_refl s, fun _ h => nomatch h⟩
  | c :: C, s => by
    obtain ⟨h1, h2⟩ := lcmR_dvd C (Nat.lcm s c.2)
    refine ⟨Nat.dvd_trans (Nat.dvd_lcm_left _ _) h1, fun d hd => ?_⟩
    rcases List.mem_cons.mp hd with rfl | hd
    · exact Nat.dvd_trans (Nat.dvd_lcm_right _ _) h1
    · exact h2 d hd
theorem lcmG_dvd : ∀ (G : List (List (Int × Nat))) (s : Nat), s ∣ lcmG s G ∧ ∀ C ∈ G, ∀ c ∈ C, c.2 ∣ lcmG s G
  | [], s => ⟨Nat.dvd_refl s, fun _ h => nomatch h⟩
  | C :: G, s => by
    obtain ⟨h1, h2⟩ := lcmG_dvd G (lcmR s C)
    obtain ⟨h3, h4⟩ := lcmR_dvd C s
    refine ⟨Nat.dvd_trans h3 h1, fun D hD => ?_⟩
    rcases List.mem_cons.mp hD with rfl | hD
    · exact fun c hc => Nat.dvd_trans (h4 c hc) h1
    · exact h2 D hD

/-! tables of any text -/
section
open PySem.StrLaws PySem.Builtin PySem.Builtin.Str PySem.NumText
theorem join_len (y : Str) : ∀ ps : List Str, (Str.join y ps).length = (ps.map (·.length)).sum + (ps.length - 1) * y.length
  | [] => by simp [Str.join, Str.empty, Str.length]
  | [p] => by simp [Str.join]
  | p :: q :: r => by
    have ih := join_len y (q :: r)
    have e := congrArg List.length (join_cons2 y p q r)
    rw [List.length_append, List.length_append, str_len, str_len, str_len, str_len] at e
    rw [e, ih]
    simp only [List.map_cons, List.sum_cons, List.length_cons, Nat.add_sub_cancel, Nat.succ_mul]
    omega
theorem join_has (y : Str) : ∀ (ps : List Str) (p : Str), p ∈ ps → ∀ c ∈ p.cps.toList, c ∈ (Str.join y ps).cps.toList
  | [], _, h, _, _ => nomatch h
  | [p], q, h, c, hc => by
    rw [List.mem_singleton.mp h] at hc
    exact hc
  | p :: q :: r, z, h, c, hc => by
    rw [join_cons2]
    rcases List.mem_cons.mp h with rfl | h
    · exact List.mem_append_left _ hc
    · exact List.mem_append_right _ (List.mem_append_right _ (join_has y (q :: r) z h c hc))
theorem mem_sum_le : ∀ {l : List Nat} {n : Nat}, n ∈ l → n ≤ l.sum
  | x :: l, n, h => by
    rw [List.sum_cons]
    rcases List.mem_cons.mp h with rfl | h
    · omega
    · have := mem_sum_le h; omega
theorem split_any (x y : Str) (hy : 1 ≤ y.length) : ((Txt.split x y).map (·.length)).sum ≤ x.length ∧ (Txt.split x y).length ≤ x.length + 1 ∧ (∀ p ∈ Txt.split x y, p.length ≤ x.length) ∧ (LoS x → ∀ p ∈ Txt.split x y, LoS p) := by
  have e := join_split x y
  have l := join_len y (Txt.split x y)
  rw [e] at l
  have hs : ((Txt.split x y).map (·.length)).sum ≤ x.length := by omega
  refine ⟨hs, ?_, fun p hp => Nat.le_trans (mem_sum_le (List.mem_map.mpr ⟨p, hp, rfl⟩)) hs, fun hx p hp c hc => hx c (by rw [← e]; exact join_has y _ p hp c hc)⟩
  have h1 : ((Txt.split x y).length - 1) * 1 ≤ ((Txt.split x y).length - 1) * y.length := Nat.mul_le_mul_left _ hy
  omega
abbrev words (l : Str) : List Str := Txt.split l sBl
abbrev lines (x : Str) : List Str := Txt.split x sSm
noncomputable def cellsOf (l : Str) : List (Int × Nat) := (words l).filterMap pFrac
noncomputable def gridOf (x : Str) : List (List (Int × Nat)) := (lines x).map cellsOf
def GoodR (l : Str) : Prop := (∀ w ∈ words l, (pFrac w).isSome = true) ∧ (words l).length ≤ 8
def GoodT (x : Str) : Prop := (∀ l ∈ lines x, GoodR l) ∧ (lines x).length ≤ 8 ∧ ∀ l ∈ lines x, (words l).length = (words ((lines x).headD Str.empty)).length
theorem flt_len {α β : Type} {f : α → Option β} : ∀ {xs : List α}, (∀ x ∈ xs, (f x).isSome = true) → (xs.filterMap f).length = xs.length
  | [], _ => rfl
  | x :: xs, h => by
    obtain ⟨y, hy⟩ := Option.isSome_iff_exists.mp (h x List.mem_cons_self)
    rw [List.filterMap_cons_some hy, List.length_cons, List.length_cons, flt_len fun z hz => h z (List.mem_cons_of_mem _ hz)]
theorem cells_frc {l : Str} {c : Int × Nat} (h : c ∈ cellsOf l) : Frc c := by
  obtain ⟨w, _, e⟩ := List.mem_filterMap.mp h
  exact (pFrac_frc e).1
theorem lcm_lem {s b : Nat} : Nat.lcm s b ≤ s * b := Nat.div_le_self _ _
theorem lcmR_bound : ∀ (ws : List Str) (s : Nat), lcmR s (ws.filterMap pFrac) ≤ s * 10 ^ (ws.map (·.length)).sum
  | [], s => by simp [lcmR]
  | w :: ws, s => by
    rw [List.map_cons, List.sum_cons]
    cases e : pFrac w with
    | none =>
      rw [List.filterMap_cons_none e]
      exact Nat.le_trans (lcmR_bound ws s) (Nat.mul_le_mul_left _ (Nat.pow_le_pow_right (by decide) (by omega)))
    | some c =>
      rw [List.filterMap_cons_some e]
      show lcmR (Nat.lcm s c.2) (ws.filterMap pFrac) ≤ _
      have h1 := lcmR_bound ws (Nat.lcm s c.2)
      have h2 : Nat.lcm s c.2 ≤ s * 10 ^ w.length := Nat.le_trans lcm_lem (Nat.mul_le_mul_left _ (pFrac_frc e).2)
      have h3 := Nat.mul_le_mul_right (10 ^ (ws.map (·.length)).sum) h2
      rw [Nat.pow_add, ← Nat.mul_assoc]
      exact Nat.le_trans h1 h3
theorem lcmG_bound : ∀ (ls : List Str) (s : Nat), lcmG s (ls.map cellsOf) ≤ s * 10 ^ (ls.map (·.length)).sum
  | [], s => by simp [lcmG]
  | l :: ls, s => by
    rw [List.map_cons, List.map_cons, List.sum_cons]
    show lcmG (lcmR s (cellsOf l)) (ls.map cellsOf) ≤ _
    have h1 := lcmG_bound ls (lcmR s (cellsOf l))
    have h2 : lcmR s (cellsOf l) ≤ s * 10 ^ l.length := Nat.le_trans (lcmR_bound (words l) s) (Nat.mul_le_mul_left _ (Nat.pow_le_pow_right (by decide) (split_any l sBl (by decide +kernel)).1))
    have h3 := Nat.mul_le_mul_right (10 ^ (ls.map (·.length)).sum) h2
    rw [Nat.pow_add, ← Nat.mul_assoc]
    exact Nat.le_trans h1 h3
theorem ten_two : 10 ^ 600 < 2 ^ 2000 := by decide
theorem grid_bound {x : Str} (hz : x.length ≤ 600) : lcmG 1 (gridOf x) < 2 ^ 2000 := by
  have h := lcmG_bound (lines x) 1
  rw [Nat.one_mul] at h
  exact Nat.lt_of_le_of_lt (Nat.le_trans h (Nat.pow_le_pow_right (by decide) (Nat.le_trans (split_any x sSm (by decide +kernel)).1 hz))) ten_two
theorem lcmR_pos : ∀ {C : List (Int × Nat)} {s : Nat}, 1 ≤ s → (∀ c ∈ C, Frc c) → 1 ≤ lcmR s C
  | [], _, h, _ => h
  | c :: C, s, h, hC => lcmR_pos (C := C) (s := Nat.lcm s c.2) (Nat.pos_of_ne_zero (Nat.lcm_ne_zero (by omega) (by have := (hC c List.mem_cons_self).1.1; omega))) fun d hd => hC d (List.mem_cons_of_mem _ hd)
theorem lcmG_pos : ∀ {G : List (List (Int × Nat))} {s : Nat}, 1 ≤ s → (∀ C ∈ G, ∀ c ∈ C, Frc c) → 1 ≤ lcmG s G
  | [], _, h, _ => h
  | C :: G, s, h, hG => lcmG_pos (G := G) (s := lcmR s C) (lcmR_pos h (hG C List.mem_cons_self)) fun D hD => hG D (List.mem_cons_of_mem _ hD)
theorem lcmR_app (s : Nat) (C D : List (Int × Nat)) : lcmR s (C ++ D) = lcmR (lcmR s C) D := by unfold lcmR; rw [List.foldl_append]
theorem lcmG_app (s : Nat) (G F : List (List (Int × Nat))) : lcmG s (G ++ F) = lcmG (lcmG s G) F := by unfold lcmG; rw [List.foldl_append]
theorem lcmR_take {C : List (Int × Nat)} {s : Nat} (h : 1 ≤ s) (hC : ∀ c ∈ C, Frc c) (i : Nat) : lcmR s (C.take i) ≤ lcmR s C := by
  have e : lcmR s C = lcmR (lcmR s (C.take i)) (C.drop i) := by rw [← lcmR_app, List.take_append_drop]
  refine Nat.le_of_dvd (lcmR_pos h hC) ?_
  rw [e]
  exact (lcmR_dvd _ _).1
theorem lcmG_take {G : List (List (Int × Nat))} {s : Nat} (h : 1 ≤ s) (hG : ∀ C ∈ G, ∀ c ∈ C, Frc c) (i : Nat) : lcmG s (G.take i) ≤ lcmG s G := by
  have e : lcmG s G = lcmG (lcmG s (G.take i)) (G.drop i) := by rw [← lcmG_app, List.take_append_drop]
  refine Nat.le_of_dvd (lcmG_pos h hG) ?_
  rw [e]
  exact (lcmG_dvd _ _).1
theorem bign {x : Nat} (h : x < 2 ^ 2000) : ((x : Int)).natAbs < 2 ^ 2000 := by rw [Int.natAbs_natCast]; exact h
theorem f30 : 10 ^ 30 < 2 ^ 2000 := Nat.lt_trans (show 10 ^ 30 < 2 ^ 100 by decide) (Nat.pow_lt_pow_right (by decide) (by decide))
theorem lcm_rowA {S : Sto} {a r : Nat} {F : List PrI} {C : List (Int × Nat)} {s : Nat} {v0 v2 : Option V} (hr : S[r]? = some (.lst (fT F))) (hT : TpI S F) (hF : F.map Prod.snd = vC C) (hs : 1 ≤ s) (hC : ∀ c ∈ C, Frc c) (hB : lcmR s C < 2 ^ 2000) :
    Fx.forM (chkL (.ref r) (fT F)) (gIT [5, 6]) [5, 6] b_read_table_1 (F.map fun p => Itm.one (.ref p.1)) [v0, some (.ref a), v2, some (.int (s : Int)), some (.ref r), none, none] S = .ok (.nx [v0, some (.ref a), v2, some (.int ((lcmR s C : Nat) : Int)), some (.ref r), none, none]) S := by
  have hl : F.length = C.length := by have := congrArg List.length hF; simpa using this
  obtain ⟨S', e1, rfl⟩ := forM_at (chk := chkL (.ref r) (fT F)) (tg := gIT [5, 6]) (ws := [5, 6]) (body := b_read_table_1) (xs := F) (fun p => Itm.one (.ref p.1))
    (fun i => [v0, some (.ref a), v2, some (.int ((lcmR s (C.take i) : Nat) : Int)), some (.ref r), none, none]) (fun _ S' => S' = S) (fun _ _ h => by rw [h]; exact chkL_of (rdL_lst hr))
    (fun i p S' hx hS => by
      subst hS
      obtain ⟨c, hc, hp⟩ := vc_at hF hx
      have hcm := List.mem_of_getElem? hc
      have ht := hT p (List.mem_of_getElem? hx)
      rw [hp] at ht
      dsimp only at ht
      refine ⟨_, by simp only [gIT_one, gT_eq, rdT_tup ht, kGT2]; rfl, ?_⟩
      have hb1 := lcmR_pos (C := C.take i) hs (fun d hd => hC d (List.mem_of_mem_take hd))
      have hb2 := Nat.lt_of_le_of_lt (lcmR_take hs hC i) hB
      have hcb := (hC c hcm).1
      have c2k : c.2 < 2 ^ 2000 := Nat.lt_trans hcb.2 f30
      have m1 := mulM_mid (bign hb2) (bign c2k) S'
      have sw := shared_with_spec (S := S') (b := lcmR s (C.take i)) hb1 (c.2 : Int)
      rw [Int.natAbs_natCast] at sw
      have g0 : (0 : Int) < ((Nat.gcd (lcmR s (C.take i)) c.2 : Nat) : Int) := by
        have := Nat.gcd_pos_of_pos_right (lcmR s (C.take i)) hcb.1
        omega
      have hg4 : Nat.gcd (lcmR s (C.take i)) c.2 < 2 ^ 4000 := Nat.lt_of_le_of_lt (Nat.gcd_le_right _ hcb.1) (Nat.lt_trans c2k (Nat.pow_lt_pow_right (by decide) (by omega)))
      simp (decide := true) only [ev, ex9, exA, exB, exD, exI, exJ, decide_true, decide_false, Bool.not_true, Bool.not_false, not_true, not_false_iff, eq_self, List.length_map, if_true, if_false, Bool.false_eq_true, b_read_table_1, m1, sw, fdivB g0 ⟨rfl, hg4⟩, lcm_int hcb.1, Tn_nx]
      exact ⟨by rw [take_succ' hc, lcmR_snoc], trivial⟩) (S := S) rfl
  rw [hl, List.take_length] at e1
  exact e1
theorem paired_map {α β : Type} {f : α → β} {P : β → V → Prop} : ∀ {xs : List α} {vs : List V}, Paired (fun x v => P (f x) v) xs vs → Paired P (xs.map f) vs
  | [], _, h => by cases h; exact .nil
  | x :: xs, _, h => by cases h with | cons r t => exact .cons r (paired_map t)
theorem pair_words {S : Sto} : ∀ {ws : List Str} {vs : List V}, Paired (fun (w : Str) v => ∃ (c : Int × Nat) (q : Nat), pFrac w = some c ∧ v = .ref q ∧ S[q]? = some (.tup [.int c.1, .int (c.2 : Int)])) ws vs → ∃ F : List PrI, vs = fT F ∧ F.map Prod.snd = vC (ws.filterMap pFrac) ∧ TpI S F
  | [], vs, h => by cases h; exact ⟨[], rfl, rfl, fun _ h => nomatch h⟩
  | w :: ws, vs, h => by
    cases h with
    | cons r t =>
      obtain ⟨c, q, hc, rfl, k⟩ := r
      obtain ⟨F, rfl, hF, hT⟩ := pair_words t
      refine ⟨(q, c.1, (c.2 : Int)) :: F, rfl, by rw [List.filterMap_cons_some hc, List.map_cons, hF]; rfl, fun p hp => ?_⟩
      rcases List.mem_cons.mp hp with rfl | hp
      · exact k
      · exact hT p hp
theorem split_ok {S : Sto} {x y : Str} (hy : (y.length == 0) = false) (hy1 : 1 ≤ y.length) (hz : x.length ≤ 600) : splitM (.str x) [.str y] S = .ok (.ref S.length) (S ++ [.lst ((Txt.split x y).map V.str)]) := by
  have := (split_any x y hy1).2.1
  unfold splitM
  dsimp only
  rw [if_pos ⟨hy, by unfold lim; omega, by unfold lim; omega⟩]; rfl
theorem read_row_any {S : Sto} {l : Str} (hl : LoS l) (hz : l.length ≤ 600) :
    (GoodR l ∧ ∃ (F : List PrI) (S' : Sto) (q : Nat), r_read_row [.str l] S = .ok (.ref q) S' ∧ Up [] S S' ∧ S'[q]? = some (.lst (fT F)) ∧ F.map Prod.snd = vC (cellsOf l) ∧ TpI S' F) ∨ (¬ GoodR l ∧ ∃ S', r_read_row [.str l] S = .exc "NoText" S' ∧ Up [] S S') := by
  obtain ⟨_, sn, sl, slo⟩ := split_any l sBl (by decide +kernel)
  have sm := split_ok (S := S) (x := l) (y := sBl) (by decide +kernel) (by decide +kernel) hz
  have sb : PySem.Str.ofString " " = sBl := rfl
  have u1 := Up.app [] S [.lst ((words l).map V.str)]
  have q1 := snew S (.lst ((words l).map V.str))
  generalize hS1 : S ++ [Ob.lst ((words l).map V.str)] = S1 at sm u1 q1
  have hit : ((words l).map V.str).map Itm.one = (words l).map fun w => Itm.one (.str w) := by rw [List.map_map]; rfl
  rcases compX_try (M := []) (S0 := S1) (chk := chkL (.ref S.length) ((words l).map V.str)) (tg := gI1 2) (te := e_read_row_1) (σ := [some (.str l), none, none]) (c := "NoText") (xs := words l) (fun w => Itm.one (.str w)) (fun w => (pFrac w).isSome = true)
    (fun S' (w : Str) v => ∃ (c : Int × Nat) (q : Nat), pFrac w = some c ∧ v = .ref q ∧ S'[q]? = some (.tup [.int c.1, .int (c.2 : Int)])) (fun S S' it v u ⟨c, q, h0, e, k⟩ => ⟨c, q, h0, e, u.get k⟩) (fun S' u => chkL_of (rdL_lst (u.get q1))) (fun w hw S' u => by
      refine ⟨_, gI1_one _ _ _ _, ?_⟩
      have hw6 := sl w hw
      rcases read_fraction_any (S := S') (slo hl w hw) (by omega) with ⟨c, S3, q, hc, e, u3, k⟩ | ⟨hc, S3, e, u3⟩
      · refine .inl ⟨by rw [hc]; rfl, .ref q, S3, ?_, u3, c, q, hc, rfl, k⟩
        simp (decide := true) only [ev, ex9, exA, exB, exD, exI, exJ, decide_true, decide_false, Bool.not_true, Bool.not_false, not_true, not_false_iff, eq_self, List.length_map, if_true, if_false, Bool.false_eq_true, e_read_row_1, e]
      · refine .inr ⟨by rw [hc]; simp, S3, ?_, u3⟩
        simp (decide := true) only [ev, ex9, exA, exB, exD, exI, exJ, decide_true, decide_false, Bool.not_true, Bool.not_false, not_true, not_false_iff, eq_self, List.length_map, if_true, if_false, Bool.false_eq_true, e_read_row_1, e]) S1 (Up.refl _ _) with ⟨hall, vs, S2, e2, u2, hp⟩ | ⟨⟨w, hw, hbad⟩, S2, e2, u2⟩
  · obtain ⟨F, rfl, hF, hT⟩ := pair_words hp
    have lF : F.length = (words l).length := by
      have := congrArg List.length hF
      rw [List.length_map, List.length_map, flt_len hall] at this
      exact this
    have u3 := Up.app [] S2 [.lst (fT F)]
    have q3 := snew S2 (.lst (fT F))
    have ln : lenM [.ref S2.length] (S2 ++ [.lst (fT F)]) = .ok (.int (F.length : Int)) (S2 ++ [.lst (fT F)]) := by rw [lenM_at (rdLT_lst q3), List.length_map]
    by_cases c8 : (F.length : Int) > 8
    · refine .inr ⟨fun h => by have := h.2; omega, ?_⟩
      simp (decide := true) only [ev, ex9, exA, exB, exD, exI, exJ, decide_true, decide_false, Bool.not_true, Bool.not_false, not_true, not_false_iff, eq_self, List.length_map, if_true, if_false, Bool.false_eq_true, r_read_row_eq, c_read_row, isSt, sb, sm, rdL_lst q1, hit, e2, ln, c8]
      exact ⟨_, rfl, (u1.trans u2).trans u3⟩
    · refine .inl ⟨⟨hall, by omega⟩, F, S2 ++ [.lst (fT F)], S2.length, ?_, (u1.trans u2).trans u3, q3, hF, hT.up u3⟩
      simp (decide := true) only [ev, ex9, exA, exB, exD, exI, exJ, decide_true, decide_false, Bool.not_true, Bool.not_false, not_true, not_false_iff, eq_self, List.length_map, if_true, if_false, Bool.false_eq_true, r_read_row_eq, c_read_row, isSt, sb, sm, rdL_lst q1, hit, e2, ln, c8]
  · refine .inr ⟨fun h => hbad (h.1 w hw), ?_⟩
    simp (decide := true) only [ev, ex9, exA, exB, exD, exI, exJ, decide_true, decide_false, Bool.not_true, Bool.not_false, not_true, not_false_iff, eq_self, List.length_map, if_true, if_false, Bool.false_eq_true, r_read_row_eq, c_read_row, isSt, sb, sm, rdL_lst q1, hit, e2]
    exact ⟨_, rfl, u1.trans u2⟩
end

/-! any text read as a table -/
section
open PySem.StrLaws PySem.Builtin PySem.Builtin.Str PySem.NumText
theorem grid_rows {G : List (List (Int × Nat))} {R : List (Nat × List PrI)} (hR : R.map (fun g => g.2.map Prod.snd) = G.map vC) {i : Nat} {g : Nat × List PrI} (h : R[i]? = some g) : ∃ C, G[i]? = some C ∧ g.2.map Prod.snd = vC C := by
  have := congrArg (fun l => l[i]?) hR
  rw [List.getElem?_map, h, List.getElem?_map] at this
  obtain ⟨C, h1, h2⟩ := Option.map_eq_some_iff.mp this.symm
  exact ⟨C, h1, h2.symm⟩
theorem vc_len {F : List PrI} {C : List (Int × Nat)} (h : F.map Prod.snd = vC C) : F.length = C.length := by have := congrArg List.length h; simpa using this
theorem resR_frc {S : Sto} {L : Nat} {c : Int × Nat} (hF : Frc c) (hL : L < 2 ^ 2000) : mulM (.int c.1) (.int ((L : Int) / (c.2 : Int))) S = .ok (.int (c.1 * ((L : Int) / (c.2 : Int)))) S := by
  refine mulM_mid (Nat.lt_trans hF.2.1 f30) ?_ S
  rw [← Int.natCast_ediv]
  exact bign (Nat.lt_of_le_of_lt (Nat.div_le_self _ _) hL)
theorem hitF (F : List PrI) : (fT F).map Itm.one = F.map fun p => Itm.one (.ref p.1) := by unfold fT; rw [List.map_map]; rfl
theorem hitR (R : List (Nat × List PrI)) : (R.map fun g => V.ref g.1).map Itm.one = R.map fun g => Itm.one (.ref g.1) := by rw [List.map_map]; rfl
theorem res_rows {R : List (Nat × List PrI)} {G : List (List (Int × Nat))} {L : Nat} (hR : R.map (fun g => g.2.map Prod.snd) = G.map vC) : R.map (fun g => g.2.map fun p => p.2.1 * ((L : Int) / p.2.2)) = G.map (resR L) := by
  have hmap : R.map (fun g => g.2.map fun p => p.2.1 * ((L : Int) / p.2.2)) = (R.map fun g => g.2.map Prod.snd).map fun l => l.map fun p : Int × Int => p.1 * ((L : Int) / p.2) := by
    rw [List.map_map]
    refine List.map_congr_left fun g _ => ?_
    show _ = (g.2.map Prod.snd).map _
    rw [List.map_map]; rfl
  rw [hmap, hR, List.map_map]
  refine List.map_congr_left fun C _ => ?_
  show (vC C).map _ = resR L C
  unfold vC resR
  rw [List.map_map]
  refine List.map_congr_left fun c _ => ?_
  show c.1 * ((L : Int) / (c.2 : Int)) = _
  rw [Int.natCast_ediv]
theorem grid_frc {x : Str} : ∀ C ∈ gridOf x, ∀ c ∈ C, Frc c := fun C hC c hc => by
  obtain ⟨l, _, rfl⟩ := List.mem_map.mp hC
  exact cells_frc hc
theorem isi_strS {S : Sto} {x : Str} : isiM [.str x, .ty "str"] S = .ok (.bl true) S := rfl
theorem goodT_of {x : Str} (h1 : ∀ l ∈ lines x, GoodR l) (h2 : (lines x).length ≤ 8) (h3 : ∀ C ∈ gridOf x, C.length = ((gridOf x).headD []).length) : GoodT x := by
  refine ⟨h1, h2, fun l hl => ?_⟩
  have e1 := h3 (cellsOf l) (List.mem_map.mpr ⟨l, hl, rfl⟩)
  obtain ⟨l0, ls, e⟩ := List.exists_cons_of_ne_nil (List.ne_nil_of_mem hl)
  have e2 : (gridOf x).headD [] = cellsOf l0 := by unfold gridOf; rw [e]; rfl
  have e3 : (lines x).headD Str.empty = l0 := by rw [e]; rfl
  have hl0 : l0 ∈ lines x := by rw [e]; exact List.mem_cons_self
  rw [e2] at e1
  rw [e3]
  unfold cellsOf at e1
  rw [flt_len (h1 l hl).1, flt_len (h1 l0 hl0).1] at e1
  exact e1
theorem goodT_len {x : Str} (h : GoodT x) : ∀ C ∈ gridOf x, C.length = ((gridOf x).headD []).length := by
  intro C hC
  obtain ⟨l, hl, rfl⟩ := List.mem_map.mp hC
  obtain ⟨l0, ls, e⟩ := List.exists_cons_of_ne_nil (List.ne_nil_of_mem hl)
  have e2 : (gridOf x).headD [] = cellsOf l0 := by unfold gridOf; rw [e]; rfl
  have e3 : (lines x).headD Str.empty = l0 := by rw [e]; rfl
  have hl0 : l0 ∈ lines x := by rw [e]; exact List.mem_cons_self
  have := h.2.2 l hl
  rw [e3] at this
  rw [e2]
  unfold cellsOf
  rw [flt_len (h.1 l hl).1, flt_len (h.1 l0 hl0).1]
  exact this
theorem read_table_any {S : Sto} {x : Str} (hl : LoS x) (hz : x.length ≤ 600) :
    (GoodT x ∧ ∃ (P : Rws) (S' : Sto) (q a : Nat), r_read_table [.str x] S = .ok (.ref q) S' ∧ Up [] S S' ∧ S'[q]? = some (.tup [.ref a, .int ((lcmG 1 (gridOf x) : Nat) : Int)]) ∧ Tb S' a P ∧ rowsOf P = (gridOf x).map (resR (lcmG 1 (gridOf x)))) ∨
    (¬ GoodT x ∧ ∃ S', r_read_table [.str x] S = .exc "NoText" S' ∧ Up [] S S') := by
  obtain ⟨_, sn, sl, slo⟩ := split_any x sSm (by decide +kernel)
  have sm := split_ok (S := S) (x := x) (y := sSm) (by decide +kernel) (by decide +kernel) hz
  have sb : PySem.Str.ofString "; " = sSm := rfl
  have u1 := Up.app [] S [.lst ((lines x).map V.str)]
  have q1 := snew S (.lst ((lines x).map V.str))
  generalize hS1 : S ++ [Ob.lst ((lines x).map V.str)] = S1 at sm u1 q1
  have hit : ((lines x).map V.str).map Itm.one = (lines x).map fun w => Itm.one (.str w) := by rw [List.map_map]; rfl
  rcases compX_try (M := []) (S0 := S1) (chk := chkL (.ref S.length) ((lines x).map V.str)) (tg := gI1 2) (te := e_read_table_1) (σ := [some (.str x), none, none, none, none, none, none]) (c := "NoText") (xs := lines x) (fun w => Itm.one (.str w)) GoodR
    (fun S' (l : Str) v => ∃ (q : Nat) (F : List PrI), v = .ref q ∧ S'[q]? = some (.lst (fT F)) ∧ F.map Prod.snd = vC (cellsOf l) ∧ TpI S' F) (fun S S' it v u ⟨q, F, e, k, hF, hT⟩ => ⟨q, F, e, u.get k, hF, hT.up u⟩) (fun S' u => chkL_of (rdL_lst (u.get q1))) (fun l hl' S' u => by
      refine ⟨_, gI1_one _ _ _ _, ?_⟩
      have hw6 := sl l hl'
      rcases read_row_any (S := S') (slo hl l hl') (by omega) with ⟨hg, F, S3, q, e, u3, k, hF, hT⟩ | ⟨hg, S3, e, u3⟩
      · refine .inl ⟨hg, .ref q, S3, ?_, u3, q, F, rfl, k, hF, hT⟩
        simp (decide := true) only [ev, ex9, exA, exB, exD, exI, exJ, decide_true, decide_false, Bool.not_true, Bool.not_false, not_true, not_false_iff, eq_self, List.length_map, if_true, if_false, Bool.false_eq_true, e_read_table_1, e]
      · refine .inr ⟨hg, S3, ?_, u3⟩
        simp (decide := true) only [ev, ex9, exA, exB, exD, exI, exJ, decide_true, decide_false, Bool.not_true, Bool.not_false, not_true, not_false_iff, eq_self, List.length_map, if_true, if_false, Bool.false_eq_true, e_read_table_1, e]) S1 (Up.refl _ _) with ⟨hall, vs, S2, e2, u2, hp⟩ | ⟨⟨w, hw, hbad⟩, S2, e2, u2⟩
  · obtain ⟨R, rfl, hR, hR1, hR2⟩ := pair_rows (paired_map (f := cellsOf) (P := fun (C : List (Int × Nat)) v => ∃ (q : Nat) (F : List PrI), v = .ref q ∧ S2[q]? = some (.lst (fT F)) ∧ F.map Prod.snd = vC C ∧ TpI S2 F) hp)
    have hR : R.map (fun g => g.2.map Prod.snd) = (gridOf x).map vC := hR
    have lR : R.length = (lines x).length := by have := congrArg List.length hR; simpa [gridOf] using this
    have lG : R.length = (gridOf x).length := by have := congrArg List.length hR; simpa using this
    have u3 := Up.app [] S2 [.lst (R.map fun g => V.ref g.1)]
    have q3 := snew S2 (.lst (R.map fun g => V.ref g.1))
    have c3 : Cel (S2 ++ [.lst (R.map fun g => V.ref g.1)]) S2.length R := ⟨q3, fun g hg => u3.get (hR1 g hg), fun g hg => (hR2 g hg).up u3⟩
    have u03 := (u1.trans u2).trans u3
    generalize hS3 : S2 ++ [Ob.lst (R.map fun g => V.ref g.1)] = S3 at q3 c3 u03 u3
    generalize hr : S2.length = r at q3 c3
    have ln : lenM [.ref r] S3 = .ok (.int (R.length : Int)) S3 := by rw [lenM_at (rdLT_lst q3), List.length_map]
    by_cases c8 : (R.length : Int) > 8
    · refine .inr ⟨fun h => by have := h.2.1; omega, ?_⟩
      simp (decide := true) only [ev, ex9, exA, exB, exD, exI, exJ, decide_true, decide_false, Bool.not_true, Bool.not_false, not_true, not_false_iff, eq_self, List.length_map, if_true, if_false, Bool.false_eq_true, r_read_table_eq, c_read_table, isi_strS, isSt, sb, sm, rdL_lst q1, hit, e2, hS3, hr, ln, c8]
      exact ⟨_, rfl, u03⟩
    · have hL := grid_bound hz
      have hfr := grid_frc (x := x)
      have len_row : ∀ {g : Nat × List PrI}, g ∈ R → lenM [.ref g.1] S3 = .ok (.int (g.2.length : Int)) S3 := fun {g} hg => by
        rw [lenM_at (rdLT_lst (c3.row g hg)), List.length_map]
      have z1 : ((lcmG 1 ((gridOf x).take 0) : Nat) : Int) = 1 := by rw [List.take_zero]; rfl
      have lp := forM_try (chk := chkL (.ref r) (R.map fun g => V.ref g.1)) (tg := gI1 4) (ws := [4, 5, 6]) (body := b_read_table_2) (xs := R) (fun g => Itm.one (.ref g.1)) (fun g => g.2.length = ((R.headD (0, [])).2).length) (fun fl S' => (∃ σ, fl = .rs "NoText" σ) ∧ S' = S3) (fun fl _ h => by obtain ⟨⟨σ, rfl⟩, _⟩ := h; trivial)
        (fun i => [some (.str x), some (.ref r), none, some (.int ((lcmG 1 ((gridOf x).take i) : Nat) : Int)), none, none, none]) (fun _ S' => S' = S3) (fun _ _ h => by rw [h]; exact chkL_of (rdL_lst q3))
        (fun i g S' hx hS => by
          subst hS
          obtain ⟨C, hC, hgC⟩ := grid_rows hR hx
          have hgm := List.mem_of_getElem? hx
          have hCm := List.mem_of_getElem? hC
          obtain ⟨g0, gs, eR⟩ := List.exists_cons_of_ne_nil (List.ne_nil_of_mem hgm)
          have h0m : g0 ∈ R := by rw [eR]; exact List.mem_cons_self
          have hd0 : R.headD (0, []) = g0 := by rw [eR]; rfl
          have x0 := ixQ_int (i := 0) (v := .ref g0.1) (rdLT_lst q3) (Int.le_refl 0) (by rw [eR]; rfl)
          rw [hd0]
          refine ⟨_, gI1_one _ _ _ _, ?_⟩
          by_cases c : g.2.length = g0.2.length
          · refine .inl ⟨c, ?_⟩
            have s1 := lcmG_pos (G := (gridOf x).take i) (Nat.le_refl 1) (fun D hD => hfr D (List.mem_of_mem_take hD))
            have sn1 := lcmG_snoc 1 ((gridOf x).take i) C
            rw [← take_succ' hC] at sn1
            have hBd : lcmR (lcmG 1 ((gridOf x).take i)) C < 2 ^ 2000 := by
              rw [← sn1]
              exact Nat.lt_of_le_of_lt (lcmG_take (Nat.le_refl 1) hfr (i + 1)) hL
            have lr := lcm_rowA (S := S') (a := r) (r := g.1) (v0 := some (.str x)) (v2 := none) (c3.row g hgm) (c3.tup g hgm) hgC s1 (hfr C hCm) hBd
            simp (decide := true) only [ev, ex9, exA, exB, exD, exI, exJ, decide_true, decide_false, Bool.not_true, Bool.not_false, not_true, not_false_iff, eq_self, List.length_map, if_true, if_false, Bool.false_eq_true, b_read_table_2, len_row hgm, x0, len_row h0m, show ((g.2.length : Nat) : Int) = (g0.2.length : Int) by omega, rdL_lst (c3.row g hgm), hitF, lr, Tn_nx]
            exact ⟨by rw [sn1], trivial⟩
          · refine .inr ⟨c, ?_⟩
            simp (decide := true) only [ev, ex9, exA, exB, exD, exI, exJ, decide_true, decide_false, Bool.not_true, Bool.not_false, not_true, not_false_iff, eq_self, List.length_map, if_true, if_false, Bool.false_eq_true, b_read_table_2, len_row hgm, x0, len_row h0m, show ¬ ((g.2.length : Nat) : Int) = (g0.2.length : Int) by omega]
            exact ⟨_, _, rfl, ⟨_, rfl⟩, by first | rfl | trivial⟩) (S := S3) rfl
      rw [z1] at lp
      rcases lp with ⟨hlen, S4, e4, rfl⟩ | ⟨⟨g, hg, hbad⟩, fl, S4, e4, ⟨σ, rfl⟩, rfl⟩
      · rw [lG, List.take_length] at e4
        have good : GoodT x := by
          refine goodT_of hall (by omega) fun C hC => ?_
          obtain ⟨i, hi⟩ := List.mem_iff_getElem?.mp hC
          have hil : i < R.length := by rw [lG]; exact (List.getElem?_eq_some_iff.mp hi).1
          obtain ⟨C', hC', hgC⟩ := grid_rows hR (List.getElem?_eq_getElem hil)
          rw [hi] at hC'; cases hC'
          have h1 := hlen _ (List.getElem_mem hil)
          rw [vc_len hgC] at h1
          rw [h1]
          obtain ⟨g0, gs, eR⟩ := List.exists_cons_of_ne_nil (List.ne_nil_of_mem (List.getElem_mem hil))
          obtain ⟨C0, hC0, hgC0⟩ := grid_rows hR (i := 0) (g := g0) (by rw [eR]; rfl)
          have : (gridOf x).headD [] = C0 := by
            cases eG : gridOf x with
            | nil => rw [eG] at hC0; cases hC0
            | cons a b => rw [eG] at hC0; cases hC0; rfl
          rw [this, ← vc_len hgC0, eR]; rfl
        generalize hLe : lcmG 1 (gridOf x) = L at e4 hL
        obtain ⟨P, S5, e5, u5, hP, f5⟩ := compM_tbl (S0 := S4) (chk := chkL (.ref r) (R.map fun g => V.ref g.1)) (tg := gI1 4) (te := e_read_table_3) (σ := [some (.str x), some (.ref r), none, some (.int (L : Int)), none, none, none]) (xs := R) (fun g => Itm.one (.ref g.1)) (fun g => g.2.map fun p => p.2.1 * ((L : Int) / p.2.2)) (fun S' u => chkL_of (rdL_lst (u.get q3))) (fun g hg S' u => ⟨_, gI1_one _ _ _ _, by
          obtain ⟨i, hi⟩ := List.mem_iff_getElem?.mp hg
          obtain ⟨C, hC, hgC⟩ := grid_rows hR hi
          have hCm := List.mem_of_getElem? hC
          have kr := u.get (c3.row g hg)
          have kt := (c3.tup g hg).up u
          have cc : compM (chkL (.ref g.1) (fT g.2)) (gIT [5, 6]) tYs e_read_table_2 (g.2.map fun p => Itm.one (.ref p.1)) [some (.str x), some (.ref r), none, some (.int (L : Int)), some (.ref g.1), none, none] S' = .ok ((g.2.map fun p => p.2.1 * ((L : Int) / p.2.2)).map V.int) S' := by
            rw [compM_pure (α := PrI) (fun p => Itm.one (.ref p.1)) (fun p => .int (p.2.1 * ((L : Int) / p.2.2))) (chkL_of (rdL_lst kr)) (fun p hpm => ⟨_, by simp only [gIT_one, gT_eq, rdT_tup (kt p hpm), kGT2]; rfl, by
              obtain ⟨j, hj⟩ := List.mem_iff_getElem?.mp hpm
              obtain ⟨c, hc, hpc⟩ := vc_at hgC hj
              have hF := hfr C hCm c (List.mem_of_getElem? hc)
              have e1 : p.2.1 = c.1 := by rw [hpc]
              have e2 : p.2.2 = (c.2 : Int) := by rw [hpc]
              have d0 : (0 : Int) < (c.2 : Int) := by have := hF.1.1; omega
              have d4 : c.2 < 2 ^ 4000 := Nat.lt_trans hF.1.2 (Nat.lt_trans f30 (Nat.pow_lt_pow_right (by decide) (by decide)))
              simp (decide := true) only [ev, ex9, exA, exB, exD, exI, exJ, decide_true, decide_false, Bool.not_true, Bool.not_false, not_true, not_false_iff, eq_self, List.length_map, if_true, if_false, Bool.false_eq_true, e_read_table_2, e1, e2, fdivB d0 ⟨rfl, d4⟩, resR_frc (S := S') hF hL]⟩)]
            rw [List.map_map]; rfl
          simp (decide := true) only [ev, ex9, exA, exB, exD, exI, exJ, decide_true, decide_false, Bool.not_true, Bool.not_false, not_true, not_false_iff, eq_self, List.length_map, if_true, if_false, Bool.false_eq_true, e_read_table_3, rdL_lst kr, hitF, cc, Re_ok]
          exact ⟨Up.app _ _ _, _, by first | rfl | trivial, Nat.le_refl _, snew _ _⟩⟩) S4 (Up.refl _ _)
        have u6 := Up.app [] S5 [.lst (P.map fun p => V.ref p.1)]
        have q6 := snew S5 (.lst (P.map fun p => V.ref p.1))
        have u7 := Up.app [] (S5 ++ [Ob.lst (P.map fun p => V.ref p.1)]) [.tup [.ref S5.length, .int (L : Int)]]
        refine .inl ⟨good, P, (S5 ++ [Ob.lst (P.map fun p => V.ref p.1)]) ++ [.tup [.ref S5.length, .int (L : Int)]], (S5 ++ [Ob.lst (P.map fun p => V.ref p.1)]).length, S5.length, ?_, ((u03.trans u5).trans u6).trans u7, snew _ _, ((f5.up u6).tb q6).up u7, by rw [hP]; exact res_rows hR⟩
        simp (decide := true) only [ev, ex9, exA, exB, exD, exI, exJ, decide_true, decide_false, Bool.not_true, Bool.not_false, not_true, not_false_iff, eq_self, List.length_map, if_true, if_false, Bool.false_eq_true, r_read_table_eq, c_read_table, isi_strS, isSt, sb, sm, rdL_lst q1, hit, e2, hS3, hr, ln, c8, rdL_lst q3, hitR, e4, e5]
      · refine .inr ⟨fun h => ?_, ?_⟩
        · obtain ⟨i, hi⟩ := List.mem_iff_getElem?.mp hg
          obtain ⟨C, hC, hgC⟩ := grid_rows hR hi
          have h1 := goodT_len h C (List.mem_of_getElem? hC)
          obtain ⟨g0, gs, eR⟩ := List.exists_cons_of_ne_nil (List.ne_nil_of_mem hg)
          obtain ⟨C0, hC0, hgC0⟩ := grid_rows hR (i := 0) (g := g0) (by rw [eR]; rfl)
          have : (gridOf x).headD [] = C0 := by
            cases eG : gridOf x with
            | nil => rw [eG] at hC0; cases hC0
            | cons a b => rw [eG] at hC0; cases hC0; rfl
          rw [this, ← vc_len hgC0, ← vc_len hgC] at h1
          apply hbad
          rw [h1, eR]; rfl
        · simp (decide := true) only [ev, ex9, exA, exB, exD, exI, exJ, decide_true, decide_false, Bool.not_true, Bool.not_false, not_true, not_false_iff, eq_self, List.length_map, if_true, if_false, Bool.false_eq_true, r_read_table_eq, c_read_table, isi_strS, isSt, sb, sm, rdL_lst q1, hit, e2, hS3, hr, ln, c8, rdL_lst q3, hitR, e4]
          exact ⟨_, rfl, u03⟩
  · refine .inr ⟨fun h => hbad (h.1 w hw), ?_⟩
    simp (decide := true) only [ev, ex9, exA, exB, exD, exI, exJ, decide_true, decide_false, Bool.not_true, Bool.not_false, not_true, not_false_iff, eq_self, List.length_map, if_true, if_false, Bool.false_eq_true, r_read_table_eq, c_read_table, isi_strS, isSt, sb, sm, rdL_lst q1, hit, e2]
    exact ⟨_, rfl, u1.trans u2⟩
end

/-! what the law draws -/
theorem z36 : (10 : Int) ^ 36 = 1000000000000000000000000000000000000 := rfl
theorem z30 : (10 : Int) ^ 30 = 1000000000000000000000000000000 := rfl
theorem t36 : Int.toNat 36 = 36 := rfl
theorem t30 : Int.toNat 30 = 30 := rfl
def Drw (N : Int) : Prop := 0 ≤ N ∧ N < 1000000000000000000000000000000000000 + 67
theorem mixed_ok {S : Sto} {ns : List Int} (h : rdL (.ref 0) S = some (ns.map V.int)) {x : Int} (hx : Drw x) : ∃ N : Int, r__law_mixed [.ref 0, .int x] S = .ok (.int N) S ∧ Drw N := by
  simp (decide := true) only [ev, ex9, exA, exB, exD, exI, exJ, decide_true, decide_false, Bool.not_true, Bool.not_false, not_true, not_false_iff, eq_self, List.length_map, if_true, if_false, Bool.false_eq_true, r__law_mixed_eq, c__law_mixed, h, items_int]
  obtain ⟨σ1, S1, e1, ⟨m, rfl, hm⟩, rfl⟩ := forM_inv (chk := chkL (.ref 0) (ns.map V.int)) (tg := gI1 2) (ws := [2]) (body := b__law_mixed_1) (items := ns.map oneI) (fun _ σ S' => (∃ m : Int, σ = [some (.ref 0), some (.int m), none] ∧ Drw m) ∧ S' = S) (fun _ _ _ e => by rw [e.2]; exact chkL_of h)
    (fun i it σ S' hx e => by
      obtain ⟨⟨m, rfl, hm⟩, rfl⟩ := e
      rw [List.getElem?_map] at hx
      obtain ⟨y, hy, rfl⟩ := Option.map_eq_some_iff.mp hx
      refine ⟨_, gI1_one _ _ _ _, ?_⟩
      simp (decide := true) only [ev, ex9, exA, exB, exD, exI, exJ, decide_true, decide_false, Bool.not_true, Bool.not_false, not_true, not_false_iff, eq_self, List.length_map, if_true, if_false, Bool.false_eq_true, b__law_mixed_1, t36, z36, mulM_r (i := m) (j := 69621) (by decide), modM_pos (j := 1000000000000000000000000000000000000 + 67) (by decide), Tn_nx]
      exact ⟨⟨_, rfl, by unfold Drw; omega⟩, trivial⟩) (σ := [some (.ref 0), some (.int x), none]) (S := S) ⟨⟨x, rfl, hx⟩, rfl⟩
  rw [e1]
  simp (decide := true) only [ev, ex9, exA, exB, exD, exI, exJ, decide_true, decide_false, Bool.not_true, Bool.not_false, not_true, not_false_iff, eq_self, List.length_map, if_true, if_false, Bool.false_eq_true]
  exact ⟨m, rfl, hm⟩

/-! the law's greatest common part -/
theorem gcd_mod {x : Int} {y z : Nat} (hz : x % (y : Int) = (z : Int)) : Nat.gcd y z = Nat.gcd x.natAbs y := by
  have e2 : (z : Int) = x - (y : Int) * (x / (y : Int)) := by rw [← hz, Int.emod_def]
  have e : x = (y : Int) * (x / (y : Int)) + (z : Int) := by rw [e2]; omega
  apply Nat.dvd_antisymm
  · apply Nat.dvd_gcd
    · apply Int.ofNat_dvd_left.mp
      rw [e]
      exact Int.dvd_add (Int.dvd_trans (Int.ofNat_dvd.mpr (Nat.gcd_dvd_left y z)) (Int.dvd_mul_right _ _)) (Int.ofNat_dvd.mpr (Nat.gcd_dvd_right y z))
    · exact Nat.gcd_dvd_left y z
  · apply Nat.dvd_gcd
    · exact Nat.gcd_dvd_right _ _
    · apply Int.ofNat_dvd.mp
      rw [e2]
      exact Int.dvd_sub (Int.ofNat_dvd_left.mpr (Nat.gcd_dvd_left _ _)) (Int.dvd_trans (Int.ofNat_dvd.mpr (Nat.gcd_dvd_right _ _)) (Int.dvd_mul_right _ _))
theorem shared_ok {S : Sto} (a : Int) (b : Nat) : r__law_shared [.int a, .int (b : Int)] S = .ok (.int ((Nat.gcd a.natAbs b : Nat) : Int)) S := by
  simp (decide := true) only [ev, ex9, exA, exB, exD, exI, exJ, decide_true, decide_false, Bool.not_true, Bool.not_false, not_true, not_false_iff, eq_self, List.length_map, if_true, if_false, Bool.false_eq_true, r__law_shared_eq, c__law_shared]
  obtain ⟨σ', S', e, x, rfl, hx, rfl⟩ := whileM_inv (t := t__law_shared_1) (ws := []) (body := b__law_shared_1)
    (fun σ S' => ∃ (x : Int) (y : Nat), σ = [some (.int x), some (.int (y : Int))] ∧ Nat.gcd x.natAbs y = Nat.gcd a.natAbs b ∧ S' = S)
    (fun σ S' => ∃ x : Int, σ = [some (.int x), some (.int 0)] ∧ x.natAbs = Nat.gcd a.natAbs b ∧ S' = S)
    (fun σ S' => match σ.getD 1 none with | some (.int i) => i.toNat | _ => 0)
    (fun σ S' hI => by
      obtain ⟨x, y, rfl, hg, rfl⟩ := hI
      by_cases h : y = 0
      · left
        subst h
        refine ⟨S', by simp (decide := true) only [ev, ex9, exA, exB, exD, exI, exJ, decide_true, decide_false, Bool.not_true, Bool.not_false, not_true, not_false_iff, eq_self, List.length_map, if_true, if_false, Bool.false_eq_true, t__law_shared_1], x, rfl, ?_, rfl⟩
        rw [← hg]; simp
      · right
        have hy : (0 : Int) < (y : Int) := by omega
        refine ⟨S', by simp (decide := true) only [ev, ex9, exA, exB, exD, exI, exJ, decide_true, decide_false, Bool.not_true, Bool.not_false, not_true, not_false_iff, eq_self, List.length_map, if_true, if_false, Bool.false_eq_true, t__law_shared_1, show ¬ (y : Int) = 0 by omega], ?_⟩
        have hn := Int.emod_nonneg x (show (y : Int) ≠ 0 by omega)
        have hl := Int.emod_lt_of_pos x hy
        obtain ⟨z, hz⟩ := Int.eq_ofNat_of_zero_le hn
        simp (decide := true) only [ev, ex9, exA, exB, exD, exI, exJ, decide_true, decide_false, Bool.not_true, Bool.not_false, not_true, not_false_iff, eq_self, List.length_map, if_true, if_false, Bool.false_eq_true, b__law_shared_1, modM_pos (i := x) (j := (y : Int)) hy, hz, Tn_nx]
        refine ⟨⟨(y : Int), z, rfl, ?_, trivial⟩, ?_⟩
        · rw [← hg, Int.natAbs_natCast]
          exact gcd_mod hz
        · show (z : Int).toNat < (y : Int).toNat
          omega) (σ := [some (.int a), some (.int (b : Int))]) (S := S) ⟨a, b, rfl, rfl, rfl⟩
  rw [e]
  have ha : (if x < 0 then -x else x) = (x.natAbs : Int) := by split <;> omega
  simp (decide := true) only [ev, ex9, exA, exB, exD, exI, exJ, decide_true, decide_false, Bool.not_true, Bool.not_false, not_true, not_false_iff, eq_self, List.length_map, if_true, if_false, Bool.false_eq_true, absM_int, ha, hx]

/-! the law's own reader -/
section
open PySem.StrLaws PySem.Builtin PySem.Builtin.Str PySem.NumText
noncomputable def cT : St → Sto → R Bool := (tO (tV (eO eqM (eV 0) (eC (.str (PySem.Str.ofString ""))))) (tO (tV (eO gtM (eA lenM (aCons (eV 0) aNil)) (eC (.int 30)))) (tAn (tV (eO gtM (eA lenM (aCons (eV 0) aNil)) (eC (.int 1)))) (tV (eO eqM (eO ixM (eV 0) (eC (.int 0))) (eC (.str (PySem.Str.ofString "0"))))))))
theorem cT_ok {S : Sto} {w : Str} (hl : LoS w) (hz : w.length ≤ 640) : ∃ b : Bool, cT [some (.str w), none] S = .ok b S ∧ (b = true ↔ (w.cps.toList = [] ∨ 30 < w.length ∨ (1 < w.length ∧ w.cps.toList[0]? = some 48))) := by
  have q0 := eqM_str hl.sh (sh_str (low_of (s := PySem.Str.ofString "") (by decide +kernel))) S
  by_cases c0 : w.cps.toList = []
  · rw [decide_eq_true (empty_iff.mpr c0)] at q0
    exact ⟨true, by simp (decide := true) only [ev, ex9, exA, exB, exD, exI, exJ, decide_true, decide_false, Bool.not_true, Bool.not_false, not_true, not_false_iff, eq_self, List.length_map, if_true, if_false, Bool.false_eq_true, cT, q0], by simp [c0]⟩
  · rw [decide_eq_false (fun h => c0 (empty_iff.mp h))] at q0
    have ln := len_str (S := S) hz
    by_cases c1 : (w.length : Int) > 30
    · exact ⟨true, by simp (decide := true) only [ev, ex9, exA, exB, exD, exI, exJ, decide_true, decide_false, Bool.not_true, Bool.not_false, not_true, not_false_iff, eq_self, List.length_map, if_true, if_false, Bool.false_eq_true, cT, q0, ln, c1], by simp; omega⟩
    · obtain ⟨d, hd, x0⟩ := first_ix (S := S) hz c0
      have dl : d < 256 := hl d (List.mem_of_getElem? hd)
      have q1 := eqM_str (s := ⟨#[d]⟩) (t := PySem.Str.ofString "0") (sh_str (fun c hc => by
        have : c = d := by simpa using hc
        omega)) (sh_str (low_of (by decide +kernel))) S
      by_cases c2 : (w.length : Int) > 1
      · by_cases c3 : d = 48
        · rw [decide_eq_true (one_is0.mpr c3)] at q1
          exact ⟨true, by simp (decide := true) only [ev, ex9, exA, exB, exD, exI, exJ, decide_true, decide_false, Bool.not_true, Bool.not_false, not_true, not_false_iff, eq_self, List.length_map, if_true, if_false, Bool.false_eq_true, cT, q0, ln, c1, c2, x0, q1], by rw [hd, c3]; simp [c0]; omega⟩
        · rw [decide_eq_false (fun h => c3 (one_is0.mp h))] at q1
          exact ⟨false, by simp (decide := true) only [ev, ex9, exA, exB, exD, exI, exJ, decide_true, decide_false, Bool.not_true, Bool.not_false, not_true, not_false_iff, eq_self, List.length_map, if_true, if_false, Bool.false_eq_true, cT, q0, ln, c1, c2, x0, q1], by rw [hd]; simp [c0, c3]; omega⟩
      · exact ⟨false, by simp (decide := true) only [ev, ex9, exA, exB, exD, exI, exJ, decide_true, decide_false, Bool.not_true, Bool.not_false, not_true, not_false_iff, eq_self, List.length_map, if_true, if_false, Bool.false_eq_true, cT, q0, ln, c1, c2], by simp [c0]; omega⟩
theorem c_number_cut : c__law_number = (sSq (sIf cT (sRet (eC .non)) sNx) (sSq (sIf (tV (eO neM (eA lenM (aCons (eComp (iS (eV 0)) (gI1 1) p__law_number_1 (eV 1) [1]) aNil)) (eA lenM (aCons (eV 0) aNil)))) (sRet (eC .non)) sNx) (sRet (eA intSM (aCons (eV 0) aNil))))) := rfl
theorem number_any {S : Sto} {w : Str} (hl : LoS w) (hz : w.length ≤ 640) :
    (∃ (n : Nat) (S' : Sto), pFig w = some n ∧ r__law_number [.str w] S = .ok (.int (n : Int)) S' ∧ Up [] S S') ∨ (pFig w = none ∧ ∃ S', r__law_number [.str w] S = .ok .non S' ∧ Up [] S S') := by
  obtain ⟨b, eb, hb⟩ := cT_ok (S := S) hl hz
  cases b with
  | true =>
    refine .inr ⟨pFig_no fun h => ?_, S, ?_, Up.refl _ _⟩
    · rcases hb.mp rfl with z | z | z
      · exact h.1.1 z
      · have := h.1.2; omega
      · exact h.2.1 z
    · simp (decide := true) only [ev, ex9, exA, exB, exD, exI, exJ, decide_true, decide_false, Bool.not_true, Bool.not_false, not_true, not_false_iff, eq_self, List.length_map, if_true, if_false, Bool.false_eq_true, r__law_number_eq, c_number_cut, eb]
  | false =>
    have hn : ¬ (w.cps.toList = [] ∨ 30 < w.length ∨ (1 < w.length ∧ w.cps.toList[0]? = some 48)) := fun h => by have := hb.mpr h; cases this
    have hk := kIS_ok (show w.cps.size ≤ 640 from hz)
    have cc := compM_flt (α := Nat) (chk := chkY) (tg := gI1 1) (tt := p__law_number_1) (te := eV 1) (σ := [some (.str w), none]) (S := S) (xs := List.range w.cps.size) (fun i => Itm.one (.str ⟨#[w.cps.getD i 0]⟩)) (fun i => decide (48 ≤ w.cps.getD i 0 ∧ w.cps.getD i 0 ≤ 57)) (fun i => .str ⟨#[w.cps.getD i 0]⟩) rfl
      (fun i hi => ⟨_, gI1_one _ _ _ _, by
        have hf := fig_has (w.cps.getD i 0)
        generalize decide (48 ≤ w.cps.getD i 0 ∧ w.cps.getD i 0 ≤ 57) = bb at hf ⊢
        simp (decide := true) only [ev, ex9, exA, exB, exD, exI, exJ, decide_true, decide_false, Bool.not_true, Bool.not_false, not_true, not_false_iff, eq_self, List.length_map, if_true, if_false, Bool.false_eq_true, p__law_number_1, inSM, hf], fun _ => by simp (decide := true) only [ev, ex9, exA, exB, exD, exI, exJ, decide_true, decide_false, Bool.not_true, Bool.not_false, not_true, not_false_iff, eq_self, List.length_map, if_true, if_false, Bool.false_eq_true]⟩)
    have u1 := Up.app [] S [.lst (((List.range w.cps.size).filter fun i => decide (48 ≤ w.cps.getD i 0 ∧ w.cps.getD i 0 ≤ 57)).map fun i => V.str ⟨#[w.cps.getD i 0]⟩)]
    have k1 := snew S (.lst (((List.range w.cps.size).filter fun i => decide (48 ≤ w.cps.getD i 0 ∧ w.cps.getD i 0 ≤ 57)).map fun i => V.str ⟨#[w.cps.getD i 0]⟩))
    generalize hS1 : S ++ [Ob.lst (((List.range w.cps.size).filter fun i => decide (48 ≤ w.cps.getD i 0 ∧ w.cps.getD i 0 ≤ 57)).map fun i => V.str ⟨#[w.cps.getD i 0]⟩)] = S1 at u1 k1
    have l1 := lenM_at (rdLT_lst k1)
    rw [List.length_map] at l1
    have l2 := len_str (S := S1) hz
    unfold strI at hk
    have hlen : (List.range w.cps.size).length = w.length := by rw [List.length_range]; rfl
    by_cases c : ∀ i ∈ List.range w.cps.size, 48 ≤ w.cps.getD i 0 ∧ w.cps.getD i 0 ≤ 57
    · have hf : FigOk w := ⟨⟨fun h => hn (.inl h), by omega⟩, fun h => hn (.inr (.inr h)), fun x hx => by
        obtain ⟨i, hi⟩ := List.mem_iff_getElem?.mp hx
        have hlt : i < w.cps.size := by
          have := (List.getElem?_eq_some_iff.mp hi).1
          rwa [Array.length_toList] at this
        rw [sign_at hlt] at hi
        cases hi
        exact c i (List.mem_range.mpr hlt)⟩
      refine .inl ⟨_, S1, pFig_yes hf, ?_, u1⟩
      have fl : ((List.range w.cps.size).filter fun i => decide (48 ≤ w.cps.getD i 0 ∧ w.cps.getD i 0 ≤ 57)) = List.range w.cps.size := List.filter_eq_self.mpr fun i hi => decide_eq_true (c i hi)
      rw [fl, hlen] at l1
      have iS' := int_str (S := S1) hf
      simp (decide := true) only [ev, ex9, exA, exB, exD, exI, exJ, decide_true, decide_false, Bool.not_true, Bool.not_false, not_true, not_false_iff, eq_self, List.length_map, if_true, if_false, Bool.false_eq_true, r__law_number_eq, c_number_cut, eb, hk, cc, hS1, l1, l2, iS']
    · have hlt : ((List.range w.cps.size).filter fun i => decide (48 ≤ w.cps.getD i 0 ∧ w.cps.getD i 0 ≤ 57)).length < w.length := by
        rw [← hlen]
        refine Nat.lt_of_le_of_ne (List.length_filter_le _ _) fun h => c fun i hi => ?_
        exact of_decide_eq_true (List.filter_eq_self.mp (List.filter_sublist.eq_of_length h) i hi)
      refine .inr ⟨pFig_no fun h => c fun i hi => h.2.2 _ (List.mem_of_getElem? (sign_at (List.mem_range.mp hi))), S1, ?_, u1⟩
      generalize ((List.range w.cps.size).filter fun i => decide (48 ≤ w.cps.getD i 0 ∧ w.cps.getD i 0 ≤ 57)).length = m at l1 hlt
      simp (decide := true) only [ev, ex9, exA, exB, exD, exI, exJ, decide_true, decide_false, Bool.not_true, Bool.not_false, not_true, not_false_iff, eq_self, List.length_map, if_true, if_false, Bool.false_eq_true, r__law_number_eq, c_number_cut, eb, hk, cc, hS1, l1, l2, show ¬ ((m : Nat) : Int) = (w.length : Int) by omega]
end

section
open PySem.StrLaws PySem.Builtin PySem.Builtin.Str PySem.NumText
theorem cutS_take (w : Str) (k : Nat) : cutS w none (some (k : Int)) = ⟨(w.cps.toList.take k).toArray⟩ := by
  have e1 : HT.sIx w.length 0 none = 0 := HT.sIx_none _ _
  have e2 : HT.sIx w.length w.length (some (k : Int)) = min k w.length := HT.sIx_nat _ _ _
  unfold cutS
  rw [e1, e2]
  apply Str.ext'
  apply Array.toList_inj.mp
  simp only [List.drop_zero, Nat.sub_zero]
  by_cases h : k ≤ w.length
  · rw [Nat.min_eq_left h]
  · rw [Nat.min_eq_right (by omega), List.take_of_length_le (by rw [str_len]; omega), List.take_of_length_le (by rw [str_len]; omega)]
theorem cutS_drop (w : Str) (k : Nat) : cutS w (some (k : Int)) none = ⟨(w.cps.toList.drop k).toArray⟩ := by
  have e1 : HT.sIx w.length 0 (some (k : Int)) = min k w.length := HT.sIx_nat _ _ _
  have e2 : HT.sIx w.length w.length none = w.length := HT.sIx_none _ _
  unfold cutS
  rw [e1, e2]
  apply Str.ext'
  apply Array.toList_inj.mp
  simp only
  by_cases h : k ≤ w.length
  · rw [Nat.min_eq_left h, List.take_of_length_le (by rw [List.length_drop, str_len]; omega)]
  · rw [Nat.min_eq_right (by omega), Nat.sub_self, List.take_zero, List.drop_of_length_le (by rw [str_len]; omega)]
theorem cutM_str {S : Sto} {w : Str} (hz : w.length ≤ 640) (lo hi : Option Int) : cutM (.str w) lo hi S = .ok (.str (cutS w lo hi)) S := by
  simp only [cutM, show w.length ≤ lim by unfold lim; omega, if_true]
theorem lo_take {w : Str} (h : LoS w) (k : Nat) : LoS ⟨(w.cps.toList.take k).toArray⟩ := fun c hc => h c (List.mem_of_mem_take (by simpa using hc))
theorem lo_drop {w : Str} (h : LoS w) (k : Nat) : LoS ⟨(w.cps.toList.drop k).toArray⟩ := fun c hc => h c (List.mem_of_mem_drop (by simpa using hc))
theorem is_minus (w : Str) : (⟨(w.cps.toList.take 1).toArray⟩ : Str) = PySem.Str.ofString "-" ↔ w.cps.toList[0]? = some 45 := by
  rw [show PySem.Str.ofString "-" = ⟨#[45]⟩ from by decide +kernel]
  cases w.cps.toList with
  | nil => simp
  | cons c r => simp
theorem is_minus0 (w : Str) : (⟨(w.cps.toList.take 2).toArray⟩ : Str) = PySem.Str.ofString "-0" ↔ w.cps.toList[0]? = some 45 ∧ w.cps.toList[1]? = some 48 := by
  rw [show PySem.Str.ofString "-0" = ⟨#[45, 48]⟩ from by decide +kernel]
  cases w.cps.toList with
  | nil => simp
  | cons c r => cases r with
    | nil => simp
    | cons d r => simp
theorem rest_zero {u : Str} (h : u.cps.toList[0]? = some 48) : pRest true u = none := by
  obtain ⟨t, s, b, hP⟩ : ∃ t s b, Txt.partition u sSl = (t, s, b) := ⟨_, _, _, rfl⟩
  obtain ⟨hcat, hs⟩ := part_any hP
  unfold pRest
  rw [hP]
  have ht : t.cps.toList[0]? = some 48 := by
    rw [hcat] at h
    cases e : t.cps.toList with
    | nil =>
      rw [e] at h
      rcases hs with ⟨rfl, rfl⟩ | rfl
      · simp [Str.empty] at h
      · rw [sSl_l] at h
        simp at h
    | cons c r => rw [e] at h; simpa using h
  unfold pR3
  dsimp only
  by_cases c : t = PySem.Str.ofString "0"
  · rw [if_pos ⟨rfl, c⟩]
  · rw [if_neg (fun z => c z.2), pFig_no]
    intro hf
    have hlen : ¬ 1 < t.length := fun z => hf.2.1 ⟨z, ht⟩
    apply c
    apply Str.ext'
    apply Array.toList_inj.mp
    rw [show (PySem.Str.ofString "0").cps.toList = [48] from by decide +kernel]
    have l2 := str_len t
    cases e : t.cps.toList with
    | nil => rw [e] at ht; cases ht
    | cons d r =>
      rw [e] at ht l2
      rw [List.length_cons] at l2
      have : r = [] := List.length_eq_zero_iff.mp (by omega)
      subst this
      cases ht
      rfl
theorem top_zero {u t s b : Str} (hP : Txt.partition u sSl = (t, s, b)) (h : ¬ u.cps.toList[0]? = some 48) : ¬ t = PySem.Str.ofString "0" := fun e => by
  obtain ⟨hcat, _⟩ := part_any hP
  apply h
  rw [hcat, e, show (PySem.Str.ofString "0").cps.toList = [48] from by decide +kernel]
  rfl
theorem fig_one : pFig (PySem.Str.ofString "1") = some 1 := by
  have e : (PySem.Str.ofString "1").cps.toList = [49] := by decide +kernel
  have hl : (PySem.Str.ofString "1").length = 1 := by decide +kernel
  have hd : AllDigits (PySem.Str.ofString "1").cps.toList := fun c hc => by
    rw [e] at hc
    have : c = 49 := by simpa using hc
    omega
  rw [pFig_yes ⟨⟨by rw [e]; simp, by omega⟩, by omega, hd⟩, e]
  rfl
def oN : Option Nat → V
  | some n => .int (n : Int)
  | none => .non
theorem number_is {S : Sto} {w : Str} (hl : LoS w) (hz : w.length ≤ 640) : ∃ S', r__law_number [.str w] S = .ok (oN (pFig w)) S' ∧ Up [] S S' := by
  rcases number_any (S := S) hl hz with ⟨n, S', h, e, u⟩ | ⟨h, S', e, u⟩
  · exact ⟨S', by rw [h]; exact e, u⟩
  · exact ⟨S', by rw [h]; exact e, u⟩
theorem in_non {S : Sto} {l : Nat} {x y : Option Nat} (h : S[l]? = some (.lst [oN x, oN y])) : inM false .non (.ref l) S = .ok (.bl (x.isNone || y.isNone)) S := by
  unfold inM
  rw [rdLT_lst h]
  cases x <;> cases y <;> rfl
noncomputable def cF : St → Sto → R Fl :=
    (sSq (sIf (tV (eO eqM (eV 2) (eC (.str (PySem.Str.ofString "")))))
    (sSet 3 (eC (.str (PySem.Str.ofString "1"))))
    sNx)
    (sSq (sSet 4 (eLst (aCons (eCl 1 r__law_number (aCons (eV 1) aNil)) (aCons (eCl 1 r__law_number (aCons (eV 3) aNil)) aNil))))
    (sSq (sIf (tO (tV (eO (inM false) (eC .non) (eV 4))) (tAn (tV (eO neM (eV 2) (eC (.str (PySem.Str.ofString ""))))) (tO (tV (eO ltM (eO ixM (eV 4) (eC (.int 1))) (eC (.int 2)))) (tV (eO neM (eCl 2 r__law_shared (aCons (eO ixM (eV 4) (eC (.int 0))) (aCons (eO ixM (eV 4) (eC (.int 1))) aNil))) (eC (.int 1)))))))
    (sRet (eC .non))
    sNx)
    (sRet (eTup (aCons (eO mulM (eO ixM (eV 4) (eC (.int 0))) (eO subM (eC (.int 1)) (eO mulM (eC (.int 2)) (eA intM (aCons (eO eqM (eSl (eV 0) none (some (eC (.int 1)))) (eC (.str (PySem.Str.ofString "-")))) aNil))))) (aCons (eO ixM (eV 4) (eC (.int 1))) aNil)))))))
theorem c_fraction_cut : c__law_fraction = (sSq (sIf (tV (eO eqM (eSl (eV 0) none (some (eC (.int 2)))) (eC (.str (PySem.Str.ofString "-0")))))
    (sRet (eC .non))
    sNx)
    (sSq (sAs (gU [1, 2, 3]) (eM isSt partM (eSl (eV 0) (some (eA intM (aCons (eO eqM (eSl (eV 0) none (some (eC (.int 1)))) (eC (.str (PySem.Str.ofString "-")))) aNil))) none) (aCons (eC (.str (PySem.Str.ofString "/"))) aNil)))
    cF)) := rfl
theorem cF_ok {S : Sto} {w t s b : Str} {neg : Bool} (hw : LoS w) (hz : w.length ≤ 640) (hneg : neg = true ↔ w.cps.toList[0]? = some 45) (lt : LoS t) (lb : LoS b) (zt : t.length ≤ 640) (zb : b.length ≤ 640) (hs : (s = Str.empty ∧ b = Str.empty) ∨ s = sSl) (ht : ¬ (neg = true ∧ t = PySem.Str.ofString "0")) :
    (∃ (c : Int × Nat) (S' : Sto) (q : Nat), pR3 neg (t, s, b) = some c ∧ cF [some (.str w), some (.str t), some (.str s), some (.str b), none] S = .ok (.rt (.ref q)) S' ∧ Up [] S S' ∧ S'[q]? = some (.tup [.int c.1, .int (c.2 : Int)])) ∨
    (pR3 neg (t, s, b) = none ∧ ∃ S', cF [some (.str w), some (.str t), some (.str s), some (.str b), none] S = .ok (.rt .non) S' ∧ Up [] S S') := by
  have sgn : ∀ S : Sto, eqM (.str (cutS w none (some 1))) (.str (PySem.Str.ofString "-")) S = .ok (.bl neg) S := fun S => by
    rw [show (1 : Int) = ((1 : Nat) : Int) from rfl, cutS_take, eqM_str (lo_take hw 1).sh (sh_str (low_of (by decide +kernel)))]
    congr 2
    rw [Bool.eq_iff_iff, decide_eq_true_eq, is_minus, hneg]
  have cw : ∀ (lo hi : Option Int) (S : Sto), cutM (.str w) lo hi S = .ok (.str (cutS w lo hi)) S := fun lo hi S => cutM_str hz lo hi
  have sg2 : ∀ n : Nat, mulM (.int (n : Int)) (.int (1 - 2 * (if neg = true then 1 else 0))) = fun S => .ok (.int (if neg = true then -(n : Int) else n)) S := fun n => by
    funext S
    cases neg with
    | true => rw [if_pos rfl, if_pos rfl, mulM_r (by decide)]; congr 2; omega
    | false => rw [if_neg (by simp), if_neg (by simp), mulM_r (by decide)]; congr 2; omega
  have m2 : ∀ (x : Int) (S : Sto), mulM (.int 2) (.int x) S = .ok (.int (2 * x)) S := fun x S => mulM_l (by decide) S
  unfold pR3
  dsimp only
  rw [if_neg ht]
  rcases hs with ⟨rfl, rfl⟩ | rfl
  · have e0 : eqM (.str Str.empty) (.str (PySem.Str.ofString "")) S = .ok (.bl true) S := by
      rw [eq_str2 (fun c hc => by simp [Str.empty] at hc) (by decide +kernel), decide_eq_true (by decide +kernel)]
    obtain ⟨S1, n1, u1⟩ := number_is (S := S) lt zt
    obtain ⟨S2, n2, u2⟩ := number_is (S := S1) (w := PySem.Str.ofString "1") (low_of (by decide +kernel)) (by decide +kernel)
    rw [fig_one] at n2
    have u3 := Up.app [] S2 [.lst [oN (pFig t), oN (some 1)]]
    have k3 := snew S2 (.lst [oN (pFig t), oN (some 1)])
    have i3 := in_non k3
    have e3 : neM (.str Str.empty) (.str (PySem.Str.ofString "")) (S2 ++ [.lst [oN (pFig t), oN (some 1)]]) = .ok (.bl false) (S2 ++ [.lst [oN (pFig t), oN (some 1)]]) := by
      rw [neM_str (LoS.sh (fun c hc => by simp [Str.empty] at hc)) (sh_str (low_of (by decide +kernel))), decide_eq_true (by decide +kernel)]; rfl
    have x0 := ixQ_int (i := 0) (v := oN (pFig t)) (rdLT_lst k3) (Int.le_refl 0) rfl
    have x1 := ixQ_int (i := 1) (v := oN (some 1)) (rdLT_lst k3) (by decide) rfl
    generalize hS3 : S2 ++ [Ob.lst [oN (pFig t), oN (some 1)]] = S3 at u3 k3 i3 e3 x0 x1
    cases hf : pFig t with
    | none =>
      have i3 : inM false .non (.ref S2.length) S3 = .ok (.bl true) S3 := by rw [i3, hf]; rfl
      refine .inr ⟨rfl, S3, ?_, (u1.trans u2).trans u3⟩
      simp (decide := true) only [ev, ex9, exA, exB, exD, exI, exJ, decide_true, decide_false, Bool.not_true, Bool.not_false, not_true, not_false_iff, eq_self, List.length_map, if_true, if_false, Bool.false_eq_true, cF, e0, n1, n2, hS3, i3]
    | some n =>
      have i3 : inM false .non (.ref S2.length) S3 = .ok (.bl false) S3 := by rw [i3, hf]; rfl
      rw [hf] at x0
      have x0 : ixQ (.ref S2.length) (.int 0) S3 = .ok (.int (n : Int)) S3 := x0
      have x1 : ixQ (.ref S2.length) (.int 1) S3 = .ok (.int ((1 : Nat) : Int)) S3 := x1
      dsimp only
      rw [if_pos rfl]
      have u4 := Up.app [] S3 [.tup [.int (if neg = true then -(n : Int) else n), .int ((1 : Nat) : Int)]]
      refine .inl ⟨_, _, S3.length, rfl, ?_, ((u1.trans u2).trans u3).trans u4, snew _ _⟩
      simp (decide := true) only [ev, ex9, exA, exB, exD, exI, exJ, decide_true, decide_false, Bool.not_true, Bool.not_false, not_true, not_false_iff, eq_self, List.length_map, if_true, if_false, Bool.false_eq_true, cF, e0, n1, n2, hS3, i3, e3, x0, x1, cw, sgn, intM_bl, m2, sg2]
  · have e0 : eqM (.str sSl) (.str (PySem.Str.ofString "")) S = .ok (.bl false) S := by
      rw [eq_str2 (low_of (by decide +kernel)) (by decide +kernel), decide_eq_false (by decide +kernel)]
    obtain ⟨S1, n1, u1⟩ := number_is (S := S) lt zt
    obtain ⟨S2, n2, u2⟩ := number_is (S := S1) lb zb
    have u3 := Up.app [] S2 [.lst [oN (pFig t), oN (pFig b)]]
    have k3 := snew S2 (.lst [oN (pFig t), oN (pFig b)])
    have i3 := in_non k3
    have e3 : neM (.str sSl) (.str (PySem.Str.ofString "")) (S2 ++ [.lst [oN (pFig t), oN (pFig b)]]) = .ok (.bl true) (S2 ++ [.lst [oN (pFig t), oN (pFig b)]]) := by
      rw [neM_str (sh_str (low_of (by decide +kernel))) (sh_str (low_of (by decide +kernel))), decide_eq_false (by decide +kernel)]; rfl
    have x0 := ixQ_int (i := 0) (v := oN (pFig t)) (rdLT_lst k3) (Int.le_refl 0) rfl
    have x1 := ixQ_int (i := 1) (v := oN (pFig b)) (rdLT_lst k3) (by decide) rfl
    generalize hS3 : S2 ++ [Ob.lst [oN (pFig t), oN (pFig b)]] = S3 at u3 k3 i3 e3 x0 x1
    have u03 := (u1.trans u2).trans u3
    cases hf : pFig t with
    | none =>
      have i3 : inM false .non (.ref S2.length) S3 = .ok (.bl true) S3 := by rw [i3, hf]; rfl
      refine .inr ⟨rfl, S3, ?_, u03⟩
      simp (decide := true) only [ev, ex9, exA, exB, exD, exI, exJ, decide_true, decide_false, Bool.not_true, Bool.not_false, not_true, not_false_iff, eq_self, List.length_map, if_true, if_false, Bool.false_eq_true, cF, e0, n1, n2, hS3, i3]
    | some n =>
      dsimp only
      rw [if_neg emp_ne]
      cases hg : pFig b with
      | none =>
        have i3 : inM false .non (.ref S2.length) S3 = .ok (.bl true) S3 := by rw [i3, hf, hg]; rfl
        refine .inr ⟨rfl, S3, ?_, u03⟩
        simp (decide := true) only [ev, ex9, exA, exB, exD, exI, exJ, decide_true, decide_false, Bool.not_true, Bool.not_false, not_true, not_false_iff, eq_self, List.length_map, if_true, if_false, Bool.false_eq_true, cF, e0, n1, n2, hS3, i3]
      | some m =>
        have i3 : inM false .non (.ref S2.length) S3 = .ok (.bl false) S3 := by rw [i3, hf, hg]; rfl
        rw [hf] at x0
        rw [hg] at x1
        have x0 : ixQ (.ref S2.length) (.int 0) S3 = .ok (.int (n : Int)) S3 := x0
        have x1 : ixQ (.ref S2.length) (.int 1) S3 = .ok (.int (m : Int)) S3 := x1
        have so := shared_ok (S := S3) (n : Int) m
        rw [Int.natAbs_natCast, Nat.gcd_comm] at so
        dsimp only
        by_cases c2 : m < 2
        · rw [if_neg (by omega)]
          refine .inr ⟨rfl, S3, ?_, u03⟩
          simp (decide := true) only [ev, ex9, exA, exB, exD, exI, exJ, decide_true, decide_false, Bool.not_true, Bool.not_false, not_true, not_false_iff, eq_self, List.length_map, if_true, if_false, Bool.false_eq_true, cF, e0, n1, n2, hS3, i3, e3, x0, x1, show (m : Int) < 2 by omega]
        · by_cases c3 : Nat.gcd m n = 1
          · rw [if_pos ⟨by omega, c3⟩]
            have u4 := Up.app [] S3 [.tup [.int (if neg = true then -(n : Int) else n), .int (m : Int)]]
            refine .inl ⟨_, _, S3.length, rfl, ?_, u03.trans u4, snew _ _⟩
            simp (decide := true) only [ev, ex9, exA, exB, exD, exI, exJ, decide_true, decide_false, Bool.not_true, Bool.not_false, not_true, not_false_iff, eq_self, List.length_map, if_true, if_false, Bool.false_eq_true, cF, e0, n1, n2, hS3, i3, e3, x0, x1, show ¬ (m : Int) < 2 by omega, so, show ((Nat.gcd m n : Nat) : Int) = 1 by omega, cw, sgn, intM_bl, m2, sg2]
          · rw [if_neg (fun h => c3 h.2)]
            refine .inr ⟨rfl, S3, ?_, u03⟩
            simp (decide := true) only [ev, ex9, exA, exB, exD, exI, exJ, decide_true, decide_false, Bool.not_true, Bool.not_false, not_true, not_false_iff, eq_self, List.length_map, if_true, if_false, Bool.false_eq_true, cF, e0, n1, n2, hS3, i3, e3, x0, x1, show ¬ (m : Int) < 2 by omega, so, show ¬ ((Nat.gcd m n : Nat) : Int) = 1 by omega]
theorem law_fraction_any {S : Sto} {w : Str} (hl : LoS w) (hz : w.length ≤ 640) :
    (∃ (c : Int × Nat) (S' : Sto) (q : Nat), pFrac w = some c ∧ r__law_fraction [.str w] S = .ok (.ref q) S' ∧ Up [] S S' ∧ S'[q]? = some (.tup [.int c.1, .int (c.2 : Int)])) ∨ (pFrac w = none ∧ ∃ S', r__law_fraction [.str w] S = .ok .non S' ∧ Up [] S S') := by
  have cw : ∀ (lo hi : Option Int) (S : Sto), cutM (.str w) lo hi S = .ok (.str (cutS w lo hi)) S := fun lo hi S => cutM_str hz lo hi
  have t2 : eqM (.str (cutS w none (some 2))) (.str (PySem.Str.ofString "-0")) S = .ok (.bl (decide (w.cps.toList[0]? = some 45 ∧ w.cps.toList[1]? = some 48))) S := by
    rw [show (2 : Int) = ((2 : Nat) : Int) from rfl, cutS_take, eqM_str (lo_take hl 2).sh (sh_str (low_of (by decide +kernel)))]
    congr 2
    exact decide_eq_decide.mpr (is_minus0 w)
  have t1 : eqM (.str (cutS w none (some 1))) (.str (PySem.Str.ofString "-")) S = .ok (.bl (decide (w.cps.toList[0]? = some 45))) S := by
    rw [show (1 : Int) = ((1 : Nat) : Int) from rfl, cutS_take, eqM_str (lo_take hl 1).sh (sh_str (low_of (by decide +kernel)))]
    congr 2
    exact decide_eq_decide.mpr (is_minus w)
  have sl : PySem.Str.ofString "/" = sSl := rfl
  have go : ∀ (u : Str) (neg : Bool) (k : Nat), (neg = true ↔ w.cps.toList[0]? = some 45) → cutS w (some (k : Int)) none = u → LoS u → u.length ≤ 640 → ¬ (neg = true ∧ u.cps.toList[0]? = some 48) → pFrac w = pRest neg u →
      eqM (.str (cutS w none (some 1))) (.str (PySem.Str.ofString "-")) S = .ok (.bl neg) S → (if neg = true then (1 : Int) else 0) = (k : Int) → eqM (.str (cutS w none (some 2))) (.str (PySem.Str.ofString "-0")) S = .ok (.bl false) S →
      (∃ (c : Int × Nat) (S' : Sto) (q : Nat), pFrac w = some c ∧ r__law_fraction [.str w] S = .ok (.ref q) S' ∧ Up [] S S' ∧ S'[q]? = some (.tup [.int c.1, .int (c.2 : Int)])) ∨ (pFrac w = none ∧ ∃ S', r__law_fraction [.str w] S = .ok .non S' ∧ Up [] S S') := by
    intro u neg k hneg hu lu zu h48 hp t1 hk t2
    obtain ⟨t, s, b, hP⟩ : ∃ t s b, Txt.partition u sSl = (t, s, b) := ⟨_, _, _, rfl⟩
    obtain ⟨hcat, hs⟩ := part_any hP
    have lt : LoS t := fun c hc => lu c (by rw [hcat]; exact List.mem_append_left _ hc)
    have lb : LoS b := fun c hc => lu c (by rw [hcat]; exact List.mem_append_right _ (List.mem_append_right _ hc))
    have lens : t.length ≤ 640 ∧ b.length ≤ 640 := by
      have := congrArg List.length hcat
      rw [List.length_append, List.length_append, str_len, str_len, str_len, str_len] at this
      omega
    have pm : partM (.str u) [.str sSl] S = .ok (.ref S.length) (S ++ [.tup [.str t, .str s, .str b]]) := by
      unfold partM
      dsimp only
      rw [if_pos ⟨by decide +kernel, by unfold lim; omega⟩, hP]; rfl
    have q1 := snew S (.tup [.str t, .str s, .str b])
    have u1 := Up.app [] S [.tup [.str t, .str s, .str b]]
    generalize S ++ [Ob.tup [.str t, .str s, .str b]] = S1 at pm q1 u1
    have hr : pRest neg u = pR3 neg (t, s, b) := by unfold pRest; rw [hP]
    rw [hp, hr]
    rcases cF_ok (S := S1) hl hz hneg lt lb lens.1 lens.2 hs (fun h => by
        by_cases c : u.cps.toList[0]? = some 48
        · exact h48 ⟨h.1, c⟩
        · exact top_zero hP c h.2) with ⟨c, S', q, e0, e1, u2, k2⟩ | ⟨e0, S', e1, u2⟩
    · refine .inl ⟨c, S', q, e0, ?_, u1.trans u2, k2⟩
      simp (decide := true) only [ev, ex9, exA, exB, exD, exI, exJ, decide_true, decide_false, Bool.not_true, Bool.not_false, not_true, not_false_iff, eq_self, List.length_map, if_true, if_false, Bool.false_eq_true, r__law_fraction_eq, c_fraction_cut, cw, t2, t1, intM_bl, hk, hu, sl, isSt, pm, rdLT_tup q1, kGT3, e1]
    · refine .inr ⟨e0, S', ?_, u1.trans u2⟩
      simp (decide := true) only [ev, ex9, exA, exB, exD, exI, exJ, decide_true, decide_false, Bool.not_true, Bool.not_false, not_true, not_false_iff, eq_self, List.length_map, if_true, if_false, Bool.false_eq_true, r__law_fraction_eq, c_fraction_cut, cw, t2, t1, intM_bl, hk, hu, sl, isSt, pm, rdLT_tup q1, kGT3, e1]
  by_cases h : w.cps.toList[0]? = some 45
  · have e := tl_cons h
    have ew : (w.cps.toList.drop 1).toArray = (tlS w).cps := by rw [e]; simp [tlS]
    have lu : LoS (tlS w) := fun c hc => hl c (by rw [e]; exact List.mem_cons_of_mem _ hc)
    have zu : (tlS w).length ≤ 640 := by
      have := congrArg List.length e
      rw [List.length_cons, str_len, str_len] at this
      omega
    have hp : pFrac w = pRest true (tlS w) := by unfold pFrac; rw [if_pos h]
    by_cases h48 : (tlS w).cps.toList[0]? = some 48
    · refine .inr ⟨by rw [hp, rest_zero h48], S, ?_, Up.refl _ _⟩
      rw [decide_eq_true (show w.cps.toList[0]? = some 45 ∧ w.cps.toList[1]? = some 48 from ⟨h, by rw [e]; simpa using h48⟩)] at t2
      simp (decide := true) only [ev, ex9, exA, exB, exD, exI, exJ, decide_true, decide_false, Bool.not_true, Bool.not_false, not_true, not_false_iff, eq_self, List.length_map, if_true, if_false, Bool.false_eq_true, r__law_fraction_eq, c_fraction_cut, cw, t2]
    · rw [decide_eq_false (show ¬ (w.cps.toList[0]? = some 45 ∧ w.cps.toList[1]? = some 48) from fun z => h48 (by have z2 := z.2; rw [e] at z2; simpa using z2))] at t2
      rw [decide_eq_true h] at t1
      exact go (tlS w) true 1 (by simp [h]) (by rw [cutS_drop]; exact congrArg Str.mk ew) lu zu (fun z => h48 z.2) hp t1 rfl t2
  · rw [decide_eq_false (show ¬ (w.cps.toList[0]? = some 45 ∧ w.cps.toList[1]? = some 48) from fun z => h z.1)] at t2
    rw [decide_eq_false h] at t1
    exact go w false 0 ⟨(fun z => by cases z), fun z => absurd z h⟩ (by rw [cutS_drop]; simp) hl hz (fun z => by cases z.1) (by unfold pFrac; rw [if_neg h]) t1 rfl t2
end

/-! the law's own tables -/
section
open PySem.StrLaws PySem.Builtin PySem.Builtin.Str PySem.NumText
theorem lcm_int2 {s b : Nat} (hb : 1 ≤ b) : (s : Int) / ((Nat.gcd s b : Nat) : Int) * (b : Int) = ((Nat.lcm s b : Nat) : Int) := by
  have hg : 0 < Nat.gcd s b := Nat.gcd_pos_of_pos_right _ hb
  have h1 : Nat.gcd s b * (s / Nat.gcd s b * b) = Nat.gcd s b * Nat.lcm s b := by
    rw [← Nat.mul_assoc, Nat.mul_div_cancel' (Nat.gcd_dvd_left s b), Nat.gcd_mul_lcm]
  have h2 := Nat.eq_of_mul_eq_mul_left hg h1
  rw [← Int.natCast_ediv, ← Int.natCast_mul, h2]
/-- what a word is read as here: a pair or nothing -/
def WV (S : Sto) (w : Str) (v : V) : Prop := (∃ (c : Int × Nat) (q : Nat), pFrac w = some c ∧ v = .ref q ∧ S[q]? = some (.tup [.int c.1, .int (c.2 : Int)])) ∨ (pFrac w = none ∧ v = .non)
theorem WV.up {S S' : Sto} {w : Str} {v : V} (u : Up [] S S') : WV S w v → WV S' w v
  | .inl ⟨c, q, h, e, k⟩ => .inl ⟨c, q, h, e, u.get k⟩
  | .inr h => .inr h
theorem pair_wv {S : Sto} {ws : List Str} {vs : List V} (h : Paired (WV S) ws vs) (hall : ∀ w ∈ ws, (pFrac w).isSome = true) : ∃ F : List PrI, vs = fT F ∧ F.map Prod.snd = vC (ws.filterMap pFrac) ∧ TpI S F := by
  refine pair_words ?_
  induction h with
  | nil => exact .nil
  | cons r t ih =>
    refine .cons ?_ (ih fun w hw => hall w (List.mem_cons_of_mem _ hw))
    rcases r with r | ⟨r, _⟩
    · exact r
    · have := hall _ List.mem_cons_self
      rw [r] at this; cases this
noncomputable def dW (w : Str) : PyData := match pFrac w with
  | some c => .tuple [.int c.1, .int (c.2 : Int)]
  | none => .none
theorem toD_one {S : Sto} {w : Str} {v : V} (h : WV S w v) : toD 4 S v = some (dW w) := by
  rcases h with ⟨c, q, hc, rfl, k⟩ | ⟨hc, rfl⟩
  · unfold dW
    rw [hc, toD]
    simp only [k]
    rfl
  · unfold dW
    rw [hc]; rfl
theorem toD_wv {S : Sto} {ws : List Str} {vs : List V} (h : Paired (WV S) ws vs) : vs.mapM (toD 4 S) = some (ws.map dW) := by
  induction h with
  | nil => rfl
  | cons r t ih => rw [List.mapM_cons, toD_one r, ih]; rfl
theorem layA_w : ∀ ws : List Str, PyData.canLayAll0 (ws.map dW) = true
  | [] => by rw [List.map_nil, PyData.canLayAll0]
  | w :: ws => by
    rw [List.map_cons, PyData.canLayAll0, layA_w ws]
    unfold dW
    cases pFrac w with
    | none => simp [PyData.canLay0]
    | some c => simp [PyData.canLay0, PyData.canLayAll0]
theorem depA_w : ∀ ws : List Str, PyData.depthAll (ws.map dW) ≤ 5
  | [] => by rw [List.map_nil, PyData.depthAll]; omega
  | w :: ws => by
    rw [List.map_cons, PyData.depthAll]
    have h := depA_w ws
    have : (dW w).depth ≤ 4 := by
      unfold dW
      cases pFrac w with
      | none => simp [PyData.depth]
      | some c => simp [PyData.depth, PyData.depthAll]
    omega
theorem eqv_w (ws : List Str) : ((ws.map dW).any fun z => PyData.eqv z .none) = ws.any fun w => (pFrac w).isNone := by
  rw [List.any_map]
  congr 1
  funext w
  show PyData.eqv (dW w) .none = _
  unfold dW
  cases pFrac w <;> rfl
theorem in_due {S : Sto} {g : Nat} {vs : List V} {ws : List Str} (k : S[g]? = some (.lst vs)) (h : Paired (WV S) ws vs) : inDM false .non (.ref g) S = .ok (.bl (ws.any fun w => (pFrac w).isNone)) S := by
  have e1 : toD 5 S .non = some .none := rfl
  have e2 : toD 5 S (.ref g) = some (.list (ws.map dW)) := by
    rw [toD]
    simp only [k]
    rw [toD_wv h]; rfl
  have s1 : SeqAt.shaped .none = true := by decide
  have s2 : SeqAt.shaped (.list (ws.map dW)) = true := by
    unfold SeqAt.shaped
    rw [PyData.canLay0, layA_w, PyData.depth]
    have := depA_w ws
    simp; omega
  unfold inDM inD
  rw [e1, e2]
  dsimp only
  rw [if_pos ⟨s1, s2⟩]
  dsimp only
  rw [if_neg (by simp), eqv_w]
theorem due_row {S : Sto} {r g : Nat} {F : List PrI} {C : List (Int × Nat)} {s : Nat} {v0 : Option V} (hr : S[g]? = some (.lst (fT F))) (hT : TpI S F) (hF : F.map Prod.snd = vC C) (hs : 1 ≤ s) (hC : ∀ c ∈ C, Frc c) (hB : lcmR s C < 2 ^ 2000) :
    Fx.forM (chkL (.ref g) (fT F)) (gIT [5, 6]) [5, 6] b__law_due_1 (F.map fun p => Itm.one (.ref p.1)) [v0, some (.ref r), none, some (.ref g), some (.int (s : Int)), none, none] S = .ok (.nx [v0, some (.ref r), none, some (.ref g), some (.int ((lcmR s C : Nat) : Int)), none, none]) S := by
  have hl := vc_len hF
  obtain ⟨S', e1, rfl⟩ := forM_at (chk := chkL (.ref g) (fT F)) (tg := gIT [5, 6]) (ws := [5, 6]) (body := b__law_due_1) (xs := F) (fun p => Itm.one (.ref p.1))
    (fun i => [v0, some (.ref r), none, some (.ref g), some (.int ((lcmR s (C.take i) : Nat) : Int)), none, none]) (fun _ S' => S' = S) (fun _ _ h => by rw [h]; exact chkL_of (rdL_lst hr))
    (fun i p S' hx hS => by
      subst hS
      obtain ⟨c, hc, hp⟩ := vc_at hF hx
      have hcm := List.mem_of_getElem? hc
      have ht := hT p (List.mem_of_getElem? hx)
      rw [hp] at ht
      dsimp only at ht
      refine ⟨_, by simp only [gIT_one, gT_eq, rdT_tup ht, kGT2]; rfl, ?_⟩
      have hb1 := lcmR_pos (C := C.take i) hs (fun d hd => hC d (List.mem_of_mem_take hd))
      have hb2 := Nat.lt_of_le_of_lt (lcmR_take hs hC i) hB
      have hcb := (hC c hcm).1
      have c2k : c.2 < 2 ^ 2000 := Nat.lt_trans hcb.2 f30
      have so := shared_ok (S := S') ((lcmR s (C.take i) : Nat) : Int) c.2
      rw [Int.natAbs_natCast] at so
      have g0 : (0 : Int) < ((Nat.gcd (lcmR s (C.take i)) c.2 : Nat) : Int) := by
        have := Nat.gcd_pos_of_pos_right (lcmR s (C.take i)) hcb.1
        omega
      have hg4 : Nat.gcd (lcmR s (C.take i)) c.2 < 2 ^ 4000 := Nat.lt_of_le_of_lt (Nat.gcd_le_right _ hcb.1) (Nat.lt_trans c2k (Nat.pow_lt_pow_right (by decide) (by omega)))
      have m1 : mulM (.int (((lcmR s (C.take i) : Nat) : Int) / ((Nat.gcd (lcmR s (C.take i)) c.2 : Nat) : Int))) (.int (c.2 : Int)) S' = .ok (.int ((Nat.lcm (lcmR s (C.take i)) c.2 : Nat) : Int)) S' := by
        rw [← lcm_int2 hcb.1]
        refine mulM_mid ?_ (bign c2k) S'
        rw [← Int.natCast_ediv]
        exact bign (Nat.lt_of_le_of_lt (Nat.div_le_self _ _) hb2)
      simp (decide := true) only [ev, ex9, exA, exB, exD, exI, exJ, decide_true, decide_false, Bool.not_true, Bool.not_false, not_true, not_false_iff, eq_self, List.length_map, if_true, if_false, Bool.false_eq_true, b__law_due_1, so, fdivB g0 ⟨rfl, hg4⟩, m1, Tn_nx]
      exact ⟨by rw [take_succ' hc, lcmR_snoc], trivial⟩) (S := S) rfl
  rw [hl, List.take_length] at e1
  exact e1
theorem pair_lines {S : Sto} : ∀ {ls : List Str} {vs : List V}, Paired (fun (l : Str) v => ∃ (g : Nat) (us : List V), v = .ref g ∧ S[g]? = some (.lst us) ∧ Paired (WV S) (words l) us) ls vs →
    ∃ X : List (Nat × Str × List V), vs = (X.map fun x => V.ref x.1) ∧ X.map (fun x => x.2.1) = ls ∧ ∀ x ∈ X, S[x.1]? = some (.lst x.2.2) ∧ Paired (WV S) (words x.2.1) x.2.2
  | [], _, h => by cases h; exact ⟨[], rfl, rfl, fun _ h => nomatch h⟩
  | l :: ls, _, h => by
    cases h with
    | cons r t =>
      obtain ⟨g, us, rfl, k, hp⟩ := r
      obtain ⟨X, rfl, h1, h2⟩ := pair_lines t
      refine ⟨(g, l, us) :: X, rfl, by rw [List.map_cons, h1], fun x hx => ?_⟩
      rcases List.mem_cons.mp hx with rfl | hx
      · exact ⟨k, hp⟩
      · exact h2 x hx
theorem due_any {S : Sto} {x : Str} (hl : LoS x) (hz : x.length ≤ 600) :
    (GoodT x ∧ ∃ (P : Rws) (S' : Sto) (q a : Nat), r__law_due [.str x] S = .ok (.ref q) S' ∧ Up [] S S' ∧ S'[q]? = some (.tup [.ref a, .int ((lcmG 1 (gridOf x) : Nat) : Int)]) ∧ Tb S' a P ∧ rowsOf P = (gridOf x).map (resR (lcmG 1 (gridOf x)))) ∨
    (¬ GoodT x ∧ ∃ S', r__law_due [.str x] S = .ok .non S' ∧ Up [] S S') := by
  obtain ⟨_, sn, sl, slo⟩ := split_any x sSm (by decide +kernel)
  have sm := split_ok (S := S) (x := x) (y := sSm) (by decide +kernel) (by decide +kernel) hz
  have sb : PySem.Str.ofString "; " = sSm := rfl
  have sb1 : PySem.Str.ofString " " = sBl := rfl
  have u1 := Up.app [] S [.lst ((lines x).map V.str)]
  have q1 := snew S (.lst ((lines x).map V.str))
  generalize hS1 : S ++ [Ob.lst ((lines x).map V.str)] = S1 at sm u1 q1
  have hit : ((lines x).map V.str).map Itm.one = (lines x).map fun w => Itm.one (.str w) := by rw [List.map_map]; rfl
  obtain ⟨vs, S2, e2, u2, hp⟩ := compM_map (M := []) (S0 := S1) (chk := chkL (.ref S.length) ((lines x).map V.str)) (tg := gI1 3) (te := e__law_due_2) (σ := [some (.str x), none, none, none, none, none, none]) (xs := lines x) (fun w => Itm.one (.str w))
    (fun S' (l : Str) v => ∃ (g : Nat) (us : List V), v = .ref g ∧ S'[g]? = some (.lst us) ∧ Paired (WV S') (words l) us) (fun S S' it v u ⟨g, us, e, k, h⟩ => ⟨g, us, e, u.get k, h.mono fun _ _ z => z.up u⟩) (fun S' u => chkL_of (rdL_lst (u.get q1))) (fun l hl' S' u => by
      refine ⟨_, gI1_one _ _ _ _, ?_⟩
      have hw6 := sl l hl'
      obtain ⟨_, tn, tl, tlo⟩ := split_any l sBl (by decide +kernel)
      have tm := split_ok (S := S') (x := l) (y := sBl) (by decide +kernel) (by decide +kernel) (by omega)
      have v1 := Up.app [] S' [.lst ((words l).map V.str)]
      have k1 := snew S' (.lst ((words l).map V.str))
      generalize hT1 : S' ++ [Ob.lst ((words l).map V.str)] = T1 at tm v1 k1
      have hit2 : ((words l).map V.str).map Itm.one = (words l).map fun w => Itm.one (.str w) := by rw [List.map_map]; rfl
      obtain ⟨us, T2, e3, v2, hq⟩ := compM_map (M := []) (S0 := T1) (chk := chkL (.ref S'.length) ((words l).map V.str)) (tg := gI1 2) (te := e__law_due_1) (σ := [some (.str x), none, none, some (.str l), none, none, none]) (xs := words l) (fun w => Itm.one (.str w))
        WV (fun S S' it v u h => h.up u) (fun S' u => chkL_of (rdL_lst (u.get k1))) (fun w hw S' u => by
          refine ⟨_, gI1_one _ _ _ _, ?_⟩
          have hw7 := tl w hw
          rcases law_fraction_any (S := S') (tlo (slo hl l hl') w hw) (by omega) with ⟨c, S3, q, hc, e, u3, k⟩ | ⟨hc, S3, e, u3⟩
          · simp (decide := true) only [ev, ex9, exA, exB, exD, exI, exJ, decide_true, decide_false, Bool.not_true, Bool.not_false, not_true, not_false_iff, eq_self, List.length_map, if_true, if_false, Bool.false_eq_true, e__law_due_1, e, Re_ok]
            exact ⟨u3, .inl ⟨c, q, hc, rfl, k⟩⟩
          · simp (decide := true) only [ev, ex9, exA, exB, exD, exI, exJ, decide_true, decide_false, Bool.not_true, Bool.not_false, not_true, not_false_iff, eq_self, List.length_map, if_true, if_false, Bool.false_eq_true, e__law_due_1, e, Re_ok]
            exact ⟨u3, .inr ⟨hc, by first | rfl | trivial⟩⟩) T1 (Up.refl _ _)
      have v3 := Up.app [] T2 [.lst us]
      simp (decide := true) only [ev, ex9, exA, exB, exD, exI, exJ, decide_true, decide_false, Bool.not_true, Bool.not_false, not_true, not_false_iff, eq_self, List.length_map, if_true, if_false, Bool.false_eq_true, e__law_due_2, isSt, sb1, tm, rdL_lst k1, hit2, e3, Re_ok]
      exact ⟨(v1.trans v2).trans v3, T2.length, us, rfl, snew _ _, hq.mono fun _ _ z => z.up v3⟩) S1 (Up.refl _ _)
  obtain ⟨X, rfl, hX, hXk⟩ := pair_lines hp
  have lX : X.length = (lines x).length := by rw [← hX, List.length_map]
  have u3 := Up.app [] S2 [.lst (X.map fun g => V.ref g.1)]
  have q3 := snew S2 (.lst (X.map fun g => V.ref g.1))
  have u03 := (u1.trans u2).trans u3
  have hXk : ∀ g ∈ X, (S2 ++ [Ob.lst (X.map fun g => V.ref g.1)])[g.1]? = some (.lst g.2.2) ∧ Paired (WV (S2 ++ [Ob.lst (X.map fun g => V.ref g.1)])) (words g.2.1) g.2.2 := fun g hg => ⟨u3.get (hXk g hg).1, (hXk g hg).2.mono fun _ _ z => z.up u3⟩
  generalize hS3 : S2 ++ [Ob.lst (X.map fun g => V.ref g.1)] = S3 at q3 u03 u3 hXk
  generalize hr : S2.length = r at q3
  have ln : lenM [.ref r] S3 = .ok (.int (X.length : Int)) S3 := by rw [lenM_at (rdLT_lst q3), List.length_map]
  have hL := grid_bound hz
  have hfr := grid_frc (x := x)
  have hitX : (X.map fun g => V.ref g.1).map Itm.one = X.map fun g => Itm.one (.ref g.1) := by rw [List.map_map]; rfl
  have len_row : ∀ {g : Nat × Str × List V}, g ∈ X → lenM [.ref g.1] S3 = .ok (.int ((words g.2.1).length : Int)) S3 := fun {g} hg => by
    rw [lenM_at (rdLT_lst (hXk g hg).1), ← (hXk g hg).2.length]
  have hgrid : gridOf x = X.map fun g => cellsOf g.2.1 := by unfold gridOf; rw [← hX, List.map_map]; rfl
  have z1 : ((lcmG 1 ((gridOf x).take 0) : Nat) : Int) = 1 := by rw [List.take_zero]; rfl
  have lp := forM_try (chk := chkL (.ref r) (X.map fun g => V.ref g.1)) (tg := gI1 3) (ws := [3, 5, 6]) (body := b__law_due_2) (xs := X) (fun g => Itm.one (.ref g.1))
    (fun g => (∀ w ∈ words g.2.1, (pFrac w).isSome = true) ∧ (words g.2.1).length = (words ((X.headD (0, Str.empty, [])).2.1)).length ∧ (words g.2.1).length ≤ 8 ∧ X.length ≤ 8) (fun fl S' => fl = .rt .non ∧ S' = S3) (fun fl _ h => by rw [h.1]; trivial)
    (fun i => [some (.str x), some (.ref r), none, none, some (.int ((lcmG 1 ((gridOf x).take i) : Nat) : Int)), none, none]) (fun _ S' => S' = S3) (fun _ _ h => by rw [h]; exact chkL_of (rdL_lst q3))
    (fun i g S' hx hS => by
      subst hS
      have hgm := List.mem_of_getElem? hx
      have hC : (gridOf x)[i]? = some (cellsOf g.2.1) := by rw [hgrid, List.getElem?_map, hx]; rfl
      have hCm := List.mem_of_getElem? hC
      obtain ⟨g0, gs, eR⟩ := List.exists_cons_of_ne_nil (List.ne_nil_of_mem hgm)
      have h0m : g0 ∈ X := by rw [eR]; exact List.mem_cons_self
      have hd0 : X.headD (0, Str.empty, []) = g0 := by rw [eR]; rfl
      have x0 := ixQ_int (i := 0) (v := .ref g0.1) (rdLT_lst q3) (Int.le_refl 0) (by rw [eR]; rfl)
      rw [hd0]
      refine ⟨_, gI1_one _ _ _ _, ?_⟩
      obtain ⟨kg, pg⟩ := hXk g hgm
      have hin := in_due kg pg
      by_cases cN : ∀ w ∈ words g.2.1, (pFrac w).isSome = true
      · have hany : ((words g.2.1).any fun w => (pFrac w).isNone) = false := by
          rw [List.any_eq_false]
          intro w hw h
          have h1 := cN w hw
          cases e : pFrac w with
          | none => rw [e] at h1; cases h1
          | some c => rw [e] at h; cases h
        rw [hany] at hin
        by_cases c1 : (words g.2.1).length = (words g0.2.1).length
        · by_cases c2 : (words g.2.1).length ≤ 8
          · by_cases c3 : X.length ≤ 8
            · refine .inl ⟨⟨cN, c1, c2, c3⟩, ?_⟩
              obtain ⟨F, eF, hF, hT⟩ := pair_wv pg cN
              rw [eF] at kg
              have hF : F.map Prod.snd = vC (cellsOf g.2.1) := hF
              have s1 := lcmG_pos (G := (gridOf x).take i) (Nat.le_refl 1) (fun D hD => hfr D (List.mem_of_mem_take hD))
              have sn1 := lcmG_snoc 1 ((gridOf x).take i) (cellsOf g.2.1)
              rw [← take_succ' hC] at sn1
              have hBd : lcmR (lcmG 1 ((gridOf x).take i)) (cellsOf g.2.1) < 2 ^ 2000 := by
                rw [← sn1]
                exact Nat.lt_of_le_of_lt (lcmG_take (Nat.le_refl 1) hfr (i + 1)) hL
              have lr := due_row (S := S') (r := r) (g := g.1) (v0 := some (.str x)) kg hT hF s1 (hfr _ hCm) hBd
              simp (decide := true) only [ev, ex9, exA, exB, exD, exI, exJ, decide_true, decide_false, Bool.not_true, Bool.not_false, not_true, not_false_iff, eq_self, List.length_map, if_true, if_false, Bool.false_eq_true, b__law_due_2, hin, len_row hgm, x0, len_row h0m, show (((words g.2.1).length : Nat) : Int) = ((words g0.2.1).length : Int) by omega, ln, show ¬ (((words g.2.1).length : Nat) : Int) > 8 by omega, show ¬ (((words g0.2.1).length : Nat) : Int) > 8 by omega, show ¬ ((X.length : Nat) : Int) > 8 by omega, rdL_lst kg, hitF, lr, Tn_nx]
              exact ⟨by rw [sn1], trivial⟩
            · refine .inr ⟨fun h => c3 h.2.2.2, .rt .non, S', ?_, rfl, rfl⟩
              simp (decide := true) only [ev, ex9, exA, exB, exD, exI, exJ, decide_true, decide_false, Bool.not_true, Bool.not_false, not_true, not_false_iff, eq_self, List.length_map, if_true, if_false, Bool.false_eq_true, b__law_due_2, hin, len_row hgm, x0, len_row h0m, show (((words g.2.1).length : Nat) : Int) = ((words g0.2.1).length : Int) by omega, ln, show ¬ (((words g.2.1).length : Nat) : Int) > 8 by omega, show ¬ (((words g0.2.1).length : Nat) : Int) > 8 by omega, show ((X.length : Nat) : Int) > 8 by omega]
          · refine .inr ⟨fun h => c2 h.2.2.1, .rt .non, S', ?_, rfl, rfl⟩
            simp (decide := true) only [ev, ex9, exA, exB, exD, exI, exJ, decide_true, decide_false, Bool.not_true, Bool.not_false, not_true, not_false_iff, eq_self, List.length_map, if_true, if_false, Bool.false_eq_true, b__law_due_2, hin, len_row hgm, x0, len_row h0m, show (((words g.2.1).length : Nat) : Int) = ((words g0.2.1).length : Int) by omega, show (((words g.2.1).length : Nat) : Int) > 8 by omega, show (((words g0.2.1).length : Nat) : Int) > 8 by omega]
        · refine .inr ⟨fun h => c1 h.2.1, .rt .non, S', ?_, rfl, rfl⟩
          simp (decide := true) only [ev, ex9, exA, exB, exD, exI, exJ, decide_true, decide_false, Bool.not_true, Bool.not_false, not_true, not_false_iff, eq_self, List.length_map, if_true, if_false, Bool.false_eq_true, b__law_due_2, hin, len_row hgm, x0, len_row h0m, show ¬ (((words g.2.1).length : Nat) : Int) = ((words g0.2.1).length : Int) by omega]
      · have hany : ((words g.2.1).any fun w => (pFrac w).isNone) = true := by
          rw [List.any_eq_true]
          refine Classical.byContradiction fun h => cN fun w hw => ?_
          cases e : pFrac w with
          | none => exact absurd ⟨w, hw, by rw [e]; rfl⟩ h
          | some c => rfl
        rw [hany] at hin
        refine .inr ⟨fun h => cN h.1, .rt .non, S', ?_, rfl, rfl⟩
        simp (decide := true) only [ev, ex9, exA, exB, exD, exI, exJ, decide_true, decide_false, Bool.not_true, Bool.not_false, not_true, not_false_iff, eq_self, List.length_map, if_true, if_false, Bool.false_eq_true, b__law_due_2, hin]) (S := S3) rfl
  rw [z1] at lp
  have hdl : X ≠ [] → (lines x).headD Str.empty = (X.headD (0, Str.empty, [])).2.1 := fun h => by
    obtain ⟨g0, gs, eR⟩ := List.exists_cons_of_ne_nil h
    rw [← hX, eR]; rfl
  rcases lp with ⟨hall, S4, e4, rfl⟩ | ⟨⟨g, hg, hbad⟩, fl, S4, e4, rfl, rfl⟩
  · have lG : X.length = (gridOf x).length := by rw [hgrid, List.length_map]
    rw [lG, List.take_length] at e4
    have good : GoodT x := by
      have back : ∀ l ∈ lines x, ∃ g ∈ X, g.2.1 = l := fun l hl => by rw [← hX] at hl; exact List.mem_map.mp hl
      refine ⟨fun l hl => ?_, ?_, fun l hl => ?_⟩
      · obtain ⟨g, hg, rfl⟩ := back l hl
        exact ⟨(hall g hg).1, (hall g hg).2.2.1⟩
      · cases e : X with
        | nil => rw [← lX, e]; simp
        | cons g gs => rw [← lX]; exact (hall g (by rw [e]; exact List.mem_cons_self)).2.2.2
      · obtain ⟨g, hg, rfl⟩ := back l hl
        rw [hdl (List.ne_nil_of_mem hg)]
        exact (hall g hg).2.1
    generalize hLe : lcmG 1 (gridOf x) = L at e4 hL
    obtain ⟨P, S5, e5, u5, hP, f5⟩ := compM_tbl (S0 := S4) (chk := chkL (.ref r) (X.map fun g => V.ref g.1)) (tg := gI1 3) (te := e__law_due_4) (σ := [some (.str x), some (.ref r), none, none, some (.int (L : Int)), none, none]) (xs := X) (fun g => Itm.one (.ref g.1)) (fun g => resR L (cellsOf g.2.1)) (fun S' u => chkL_of (rdL_lst (u.get q3))) (fun g hg S' u => ⟨_, gI1_one _ _ _ _, by
      obtain ⟨kg, pg⟩ := hXk g hg
      obtain ⟨F, eF, hF, hT⟩ := pair_wv pg (hall g hg).1
      rw [eF] at kg
      have hF : F.map Prod.snd = vC (cellsOf g.2.1) := hF
      have hCm : cellsOf g.2.1 ∈ gridOf x := by rw [hgrid]; exact List.mem_map.mpr ⟨g, hg, rfl⟩
      have kr := u.get kg
      have kt := hT.up u
      have hres : F.map (fun p => p.2.1 * ((L : Int) / p.2.2)) = resR L (cellsOf g.2.1) := by
        have : F.map (fun p => p.2.1 * ((L : Int) / p.2.2)) = (F.map Prod.snd).map fun p : Int × Int => p.1 * ((L : Int) / p.2) := by rw [List.map_map]; rfl
        rw [this, hF]
        unfold vC resR
        rw [List.map_map]
        refine List.map_congr_left fun c _ => ?_
        show c.1 * ((L : Int) / (c.2 : Int)) = _
        rw [Int.natCast_ediv]
      have cc : compM (chkL (.ref g.1) (fT F)) (gIT [5, 6]) tYs e__law_due_3 (F.map fun p => Itm.one (.ref p.1)) [some (.str x), some (.ref r), none, some (.ref g.1), some (.int (L : Int)), none, none] S' = .ok ((resR L (cellsOf g.2.1)).map V.int) S' := by
        rw [compM_pure (α := PrI) (fun p => Itm.one (.ref p.1)) (fun p => .int (p.2.1 * ((L : Int) / p.2.2))) (chkL_of (rdL_lst kr)) (fun p hpm => ⟨_, by simp only [gIT_one, gT_eq, rdT_tup (kt p hpm), kGT2]; rfl, by
          obtain ⟨j, hj⟩ := List.mem_iff_getElem?.mp hpm
          obtain ⟨c, hc, hpc⟩ := vc_at hF hj
          have hFr := hfr _ hCm c (List.mem_of_getElem? hc)
          have e1 : p.2.1 = c.1 := by rw [hpc]
          have e2 : p.2.2 = (c.2 : Int) := by rw [hpc]
          have d0 : (0 : Int) < (c.2 : Int) := by have := hFr.1.1; omega
          have d4 : c.2 < 2 ^ 4000 := Nat.lt_trans hFr.1.2 (Nat.lt_trans f30 (Nat.pow_lt_pow_right (by decide) (by decide)))
          simp (decide := true) only [ev, ex9, exA, exB, exD, exI, exJ, decide_true, decide_false, Bool.not_true, Bool.not_false, not_true, not_false_iff, eq_self, List.length_map, if_true, if_false, Bool.false_eq_true, e__law_due_3, e1, e2, fdivB d0 ⟨rfl, d4⟩, resR_frc (S := S') hFr hL]⟩), ← hres]
        rw [List.map_map]; rfl
      simp (decide := true) only [ev, ex9, exA, exB, exD, exI, exJ, decide_true, decide_false, Bool.not_true, Bool.not_false, not_true, not_false_iff, eq_self, List.length_map, if_true, if_false, Bool.false_eq_true, e__law_due_4, rdL_lst kr, hitF, cc, Re_ok]
      exact ⟨Up.app _ _ _, _, by first | rfl | trivial, Nat.le_refl _, snew _ _⟩⟩) S4 (Up.refl _ _)
    have u6 := Up.app [] S5 [.lst (P.map fun p => V.ref p.1)]
    have q6 := snew S5 (.lst (P.map fun p => V.ref p.1))
    have u7 := Up.app [] (S5 ++ [Ob.lst (P.map fun p => V.ref p.1)]) [.tup [.ref S5.length, .int (L : Int)]]
    refine .inl ⟨good, P, (S5 ++ [Ob.lst (P.map fun p => V.ref p.1)]) ++ [.tup [.ref S5.length, .int (L : Int)]], (S5 ++ [Ob.lst (P.map fun p => V.ref p.1)]).length, S5.length, ?_, ((u03.trans u5).trans u6).trans u7, snew _ _, ((f5.up u6).tb q6).up u7, by rw [hP, hgrid, List.map_map]; rfl⟩
    simp (decide := true) only [ev, ex9, exA, exB, exD, exI, exJ, decide_true, decide_false, Bool.not_true, Bool.not_false, not_true, not_false_iff, eq_self, List.length_map, if_true, if_false, Bool.false_eq_true, r__law_due_eq, c__law_due, isi_strS, isSt, sb, sm, rdL_lst q1, hit, e2, hS3, hr, rdL_lst q3, hitX, e4, e5]
  · refine .inr ⟨fun h => hbad ?_, S4, ?_, u03⟩
    · have hgl : g.2.1 ∈ lines x := by rw [← hX]; exact List.mem_map.mpr ⟨g, hg, rfl⟩
      have h1 := h.2.2 _ hgl
      rw [hdl (List.ne_nil_of_mem hg)] at h1
      exact ⟨(h.1 _ hgl).1, h1, (h.1 _ hgl).2, by have := h.2.1; omega⟩
    · simp (decide := true) only [ev, ex9, exA, exB, exD, exI, exJ, decide_true, decide_false, Bool.not_true, Bool.not_false, not_true, not_false_iff, eq_self, List.length_map, if_true, if_false, Bool.false_eq_true, r__law_due_eq, c__law_due, isi_strS, isSt, sb, sm, rdL_lst q1, hit, e2, hS3, hr, rdL_lst q3, hitX, e4]
end

/-! == of what is the same data -/
theorem neM_same {S : Sto} {x y : V} {d : PyData} (hx : toD 5 S x = some d) (hy : toD 5 S y = some d) (hs : SeqAt.shaped d = true) : neM x y S = .ok (.bl false) S := by
  have hc : d.canLay0 = true := by
    unfold SeqAt.shaped at hs
    rw [Bool.and_eq_true] at hs
    exact hs.1
  unfold neM eqB
  rw [hx, hy]
  simp only [hs, and_self, if_true, SeqAt.eqv_refl d hc, Bool.not_true]
theorem eqM_same {S : Sto} {x y : V} {d : PyData} (hx : toD 5 S x = some d) (hy : toD 5 S y = some d) (hs : SeqAt.shaped d = true) : eqM x y S = .ok (.bl true) S := by
  have hc : d.canLay0 = true := by
    unfold SeqAt.shaped at hs
    rw [Bool.and_eq_true] at hs
    exact hs.1
  unfold eqM eqB
  rw [hx, hy]
  simp only [hs, and_self, if_true, SeqAt.eqv_refl d hc]
def dTb (T : List (List Int)) : PyData := .list (T.map dRow)
theorem lay_dTb (T : List (List Int)) : (dTb T).canLay0 = true := by rw [dTb, PyData.canLay0, layA_rows]
theorem depth_dTb (T : List (List Int)) : (dTb T).depth ≤ 3 := by
  rw [dTb, PyData.depth]
  have := depA_rows T
  omega
theorem lay_dRow (r : List Int) : (dRow r).canLay0 = true := by rw [dRow, PyData.canLay0, layA_ints]
theorem toD_lst2 {S : Sto} {a : Nat} {x y : V} {dx dy : PyData} {n : Nat} (h : S[a]? = some (.lst [x, y])) (hx : toD n S x = some dx) (hy : toD n S y = some dy) : toD (n + 1) S (.ref a) = some (.list [dx, dy]) := by
  rw [toD]
  simp only [h]
  rw [List.mapM_cons, hx, List.mapM_cons, hy, List.mapM_nil]
  rfl
theorem shaped_two {dx dy : PyData} {k : Nat} (h1 : dx.canLay0 = true) (h2 : dy.canLay0 = true) (e1 : dx.depth ≤ 60) (e2 : dy.depth ≤ 60) : SeqAt.shaped (.list [dx, dy]) = true := by
  unfold SeqAt.shaped
  rw [PyData.canLay0, PyData.canLayAll0, PyData.canLayAll0, PyData.canLayAll0, h1, h2, PyData.depth, PyData.depthAll, PyData.depthAll, PyData.depthAll]
  simp; omega
theorem lay_two {dx dy : PyData} (h1 : dx.canLay0 = true) (h2 : dy.canLay0 = true) : (PyData.list [dx, dy]).canLay0 = true := by
  rw [PyData.canLay0, PyData.canLayAll0, PyData.canLayAll0, PyData.canLayAll0, h1, h2]; rfl
theorem depth_two {dx dy : PyData} {k : Nat} (e1 : dx.depth ≤ k) (e2 : dy.depth ≤ k) : (PyData.list [dx, dy]).depth ≤ k + 1 := by
  rw [PyData.depth, PyData.depthAll, PyData.depthAll, PyData.depthAll]
  simp; omega

/-! lists of places -/
def oV (ks : List Nat) : List V := ks.map fun (k : Nat) => V.int (k : Int)
theorem oV_at {S : Sto} {o : Nat} {ks : List Nat} {k : Nat} (ho : S[o]? = some (.lst (oV ks))) (hk : k < ks.length) : ixQ (.ref o) (.int (k : Int)) S = .ok (.int ((ks.getD k 0 : Nat) : Int)) S :=
  ixQ_at (rdLT_lst ho) (by rw [oV, List.getElem?_map, List.getElem?_eq_getElem hk, List.getD_eq_getElem?_getD, List.getElem?_eq_getElem hk]; rfl)
theorem row_nat {S : Sto} {r : Nat} {row : List Int} {p : Nat} (h : S[r]? = some (.lst (row.map V.int))) (hp : p < row.length) : ixQ (.ref r) (.int (p : Int)) S = .ok (.int (row.getD p 0)) S := by
  have := rix (i := (p : Int)) h (by omega) (by omega)
  rwa [Int.toNat_natCast] at this
theorem notN_ref (n : Nat) (S : Sto) : notNM (.ref n) .non S = .ok (.bl true) S := rfl
theorem notN_non (S : Sto) : notNM .non .non S = .ok (.bl false) S := rfl

/-! texts of low signs -/
section
open PySem.StrLaws
theorem join_low {y : Str} (hy : ∀ c ∈ y.cps.toList, c < 256) : ∀ {ps : List Str}, (∀ p ∈ ps, ∀ c ∈ p.cps.toList, c < 256) → ∀ c ∈ (Str.join y ps).cps.toList, c < 256
  | [], _, c, h => by simp [Str.join, Str.empty] at h
  | [p], hp, c, h => hp p List.mem_cons_self c (show c ∈ p.cps.toList from h)
  | p :: q :: r, hp, c, h => by
    rw [join_cons2] at h
    rcases List.mem_append.mp h with h | h
    · exact hp p List.mem_cons_self c h
    · rcases List.mem_append.mp h with h | h
      · exact hy c h
      · exact join_low hy (fun z hz => hp z (List.mem_cons_of_mem _ hz)) c h
theorem txt_low (t : Int) : ∀ c ∈ (txt t).cps.toList, c < 256 := by
  by_cases h0 : 0 ≤ t
  · obtain ⟨n, rfl⟩ := Int.eq_ofNat_of_zero_le h0
    exact dig_low n
  · obtain ⟨n, hn0⟩ : ∃ n : Nat, t = -(n : Int) := ⟨t.natAbs, by omega⟩
    subst hn0
    rw [txt_neg (by omega)]
    intro c hc
    rcases List.mem_cons.mp hc with rfl | hc
    · omega
    · exact dig_low n c hc
theorem word_low (c : Int × Nat) : ∀ x ∈ (word c).cps.toList, x < 256 := by
  unfold word fr
  split
  · exact txt_low _
  · intro x hx
    rw [Str.cps_append, Str.cps_append, Array.toList_append, Array.toList_append] at hx
    rcases List.mem_append.mp hx with hx | hx
    · rcases List.mem_append.mp hx with hx | hx
      · exact txt_low _ x hx
      · rw [sSl_l] at hx; have : x = 47 := by simpa using hx
        omega
    · exact txt_low _ x hx
theorem line_low (C : List (Int × Nat)) : ∀ x ∈ (line C).cps.toList, x < 256 := join_low (by rw [sBl_l]; decide) (fun p hp => by
  obtain ⟨c, _, rfl⟩ := List.mem_map.mp hp
  exact word_low c)
theorem text_low (G : List (List (Int × Nat))) : ∀ x ∈ (text G).cps.toList, x < 256 := join_low (by rw [sSm_l]; decide) (fun p hp => by
  obtain ⟨c, _, rfl⟩ := List.mem_map.mp hp
  exact line_low c)
theorem sh_text (G : List (List (Int × Nat))) : SeqAt.shaped (.str (text G)) = true := sh_str (text_low G)
end

/-! asked of a thing -/
section
open PySem.StrLaws PySem.Builtin PySem.Builtin.Str PySem.NumText
theorem toD_pairT {S : Sto} {q a : Nat} {L : Int} {P : Rws} (k : S[q]? = some (.tup [.ref a, .int L])) (t : Tb S a P) : toD 5 S (.ref q) = some (.tuple [.list ((rowsOf P).map dRow), .int L]) := by
  rw [toD]
  simp only [k]
  rw [List.mapM_cons, toD_tb t 1, List.mapM_cons, List.mapM_nil]
  rfl
theorem lay_pairT (T : List (List Int)) (L : Int) : SeqAt.shaped (.tuple [.list (T.map dRow), .int L]) = true := by
  have h1 := lay_dTb T
  have h2 := depth_dTb T
  unfold dTb at h1 h2
  unfold SeqAt.shaped
  rw [PyData.canLay0, PyData.canLayAll0, PyData.canLayAll0, PyData.canLayAll0, h1, PyData.depth, PyData.depthAll, PyData.depthAll, PyData.depthAll]
  generalize (PyData.list (T.map dRow)).depth = m at h2
  simp [PyData.canLay0, PyData.depth]
  omega
def Txo (x : Str) (n : Nat) : Prop := LoS x ∧ x.length ≤ n
theorem asked_str {S : Sto} {x : Str} (h : Txo x 600) : ∃ S', r__law_asked [.str x] S = .ok (.bl true) S' ∧ Up [] S S' := by
  obtain ⟨hl, hz⟩ := h
  rcases due_any (S := S) hl hz with ⟨good, Q, S1, d, b, e1, u1, kd, tq, hQ⟩ | ⟨bad, S1, e1, u1⟩
  · rcases read_table_any (S := S1) hl hz with ⟨_, P, S2, f, a, e2, u2, kf, tp, hP⟩ | ⟨bad, _⟩
    · have it : isiM [.ref f, .ty "tuple"] S2 = .ok (.bl true) S2 := by rw [isi_of (tyN_tup kf) (by decide)]; rfl
      have eq : eqM (.ref f) (.ref d) S2 = .ok (.bl true) S2 := eqM_same (toD_pairT kf tp) (by rw [toD_pairT (u2.get kd) (tq.up u2), hP, hQ]) (lay_pairT _ _)
      refine ⟨S2, ?_, u1.trans u2⟩
      simp (decide := true) only [ev, ex9, exA, exB, exD, exI, exJ, decide_true, decide_false, Bool.not_true, Bool.not_false, not_true, not_false_iff, eq_self, List.length_map, if_true, if_false, Bool.false_eq_true, r__law_asked_eq, c__law_asked, e1, notN_ref, e2, it, eq]
    · exact absurd good bad
  · rcases read_table_any (S := S1) hl hz with ⟨good, _⟩ | ⟨_, S2, e2, u2⟩
    · exact absurd good bad
    · rcases read_table_any (S := S2) hl hz with ⟨good, _⟩ | ⟨_, S3, e3, u3⟩
      · exact absurd good bad
      · have hu : ∀ σ, u__law_asked_1 "NoText" σ = σ.set 3 (some (.int 2)) := fun σ => by
          have h1 : fAny ["NoNumber", "NoTable", "NotAlike", "NoStep", "NoMix", "NotEven"] "NoText" = false := by decide
          have h2 : fAny ["NoSwap", "NoBounds", "NoPlace", "NoSums", "NoBottom", "TooGreat"] "NoText" = false := by decide
          simp only [u__law_asked_1, uSeq, uAdd, uNil, h1, h2, Bool.false_eq_true, if_false, Bool.not_false, if_true]
          rfl
        refine ⟨S3, ?_, (u1.trans u2).trans u3⟩
        simp (decide := true) only [ev, ex9, exA, exB, exD, exI, exJ, decide_true, decide_false, Bool.not_true, Bool.not_false, not_true, not_false_iff, eq_self, List.length_map, if_true, if_false, Bool.false_eq_true, r__law_asked_eq, c__law_asked, e1, notN_non, e2]
        rw [kTrA_rs (by decide) (by decide) (by simp), hu]
        simp (decide := true) only [ev, ex9, exA, exB, exD, exI, exJ, decide_true, decide_false, Bool.not_true, Bool.not_false, not_true, not_false_iff, eq_self, List.length_map, if_true, if_false, Bool.false_eq_true, e3]
        rw [kTrA_rs (by decide) (by decide) (by simp), u__law_asked_2, su2]
        simp (decide := true) only [ev, ex9, exA, exB, exD, exI, exJ, decide_true, decide_false, Bool.not_true, Bool.not_false, not_true, not_false_iff, eq_self, List.length_map, if_true, if_false, Bool.false_eq_true]
theorem asked_odd {S : Sto} {v : V} (h : ∀ S', Up [] S S' → isiM [v, .ty "str"] S' = .ok (.bl false) S') : ∃ S', r__law_asked [v] S = .ok (.bl true) S' ∧ Up [] S S' := by
  have i0 := h S (Up.refl _ _)
  have e1 : r__law_due [v] S = .ok .non S := by simp (decide := true) only [ev, ex9, exA, exB, exD, exI, exJ, decide_true, decide_false, Bool.not_true, Bool.not_false, not_true, not_false_iff, eq_self, List.length_map, if_true, if_false, Bool.false_eq_true, r__law_due_eq, c__law_due, i0]
  have e2 : r_read_table [v] S = .exc "NoText" S := by simp (decide := true) only [ev, ex9, exA, exB, exD, exI, exJ, decide_true, decide_false, Bool.not_true, Bool.not_false, not_true, not_false_iff, eq_self, List.length_map, if_true, if_false, Bool.false_eq_true, r_read_table_eq, c_read_table, i0]
  have hu : ∀ σ, u__law_asked_1 "NoText" σ = σ.set 3 (some (.int 2)) := fun σ => by
    have h1 : fAny ["NoNumber", "NoTable", "NotAlike", "NoStep", "NoMix", "NotEven"] "NoText" = false := by decide
    have h2 : fAny ["NoSwap", "NoBounds", "NoPlace", "NoSums", "NoBottom", "TooGreat"] "NoText" = false := by decide
    simp only [u__law_asked_1, uSeq, uAdd, uNil, h1, h2, Bool.false_eq_true, if_false, Bool.not_false, if_true]
    rfl
  refine ⟨S, ?_, Up.refl _ _⟩
  simp (decide := true) only [ev, ex9, exA, exB, exD, exI, exJ, decide_true, decide_false, Bool.not_true, Bool.not_false, not_true, not_false_iff, eq_self, List.length_map, if_true, if_false, Bool.false_eq_true, r__law_asked_eq, c__law_asked, e1, notN_non, e2]
  rw [kTrA_rs (by decide) (by decide) (by simp), hu]
  simp (decide := true) only [ev, ex9, exA, exB, exD, exI, exJ, decide_true, decide_false, Bool.not_true, Bool.not_false, not_true, not_false_iff, eq_self, List.length_map, if_true, if_false, Bool.false_eq_true, e2]
  rw [kTrA_rs (by decide) (by decide) (by simp), u__law_asked_2, su2]
  simp (decide := true) only [ev, ex9, exA, exB, exD, exI, exJ, decide_true, decide_false, Bool.not_true, Bool.not_false, not_true, not_false_iff, eq_self, List.length_map, if_true, if_false, Bool.false_eq_true]
/-! the law's text -/
theorem LoS.app {x y : Str} (h1 : LoS x) (h2 : LoS y) : LoS (x ++ y) := fun c hc => by
  rw [Str.cps_append, Array.toList_append] at hc
  rcases List.mem_append.mp hc with hc | hc
  · exact h1 c hc
  · exact h2 c hc
theorem strM_ok' {S : Sto} {x y : Str} (h1 : x.length ≤ 10000) (h2 : y.length ≤ 10000) : strM (.str x) (.str y) S = .ok (.str (x ++ y)) S := by
  unfold strM
  dsimp only
  rw [if_pos (by unfold lim; omega)]
theorem txt_len {t : Int} (h : t.natAbs < 10 ^ 30) : (txt t).length ≤ 31 := by
  by_cases h0 : 0 ≤ t
  · obtain ⟨n, rfl⟩ := Int.eq_ofNat_of_zero_le h0
    have := dig_len (n := n) h
    rw [txt_pos]; omega
  · obtain ⟨n, hn0⟩ : ∃ n : Nat, t = -(n : Int) := ⟨t.natAbs, by omega⟩
    subst hn0
    have h1 := dig_len (n := n) (by simpa using h)
    have e := txt_neg (n := n) (by omega)
    have := congrArg List.length e
    rw [str_len, List.length_cons, str_len] at this
    omega
theorem textM_is {t : Int} (h : t.natAbs < 10 ^ 30) (S : Sto) : textM [.int t] S = .ok (.str (txt t)) S := by
  unfold textM
  dsimp only
  have : t.natAbs.log2 < 1920 := by
    have := PySem.Flt.log2_lt_of (by decide : 0 < 1000) (Nat.lt_trans h (Nat.lt_trans (show 10 ^ 30 < 2 ^ 100 by decide) (Nat.pow_lt_pow_right (by decide) (by decide))))
    omega
  rw [if_pos this]; rfl
theorem all_str : ∀ ps : List Str, allS (ps.map V.str) = some ps
  | [] => rfl
  | p :: ps => by rw [List.map_cons, allS, all_str ps]; rfl
theorem join_ok {S : Sto} {y : Str} {a : Nat} {ps : List Str} (h : S[a]? = some (.lst (ps.map V.str))) (hl : (ps.map (·.length)).sum + ps.length * y.length ≤ 16777216) : joinM (.str y) [.ref a] S = .ok (.str (Str.join y ps)) S := by
  have e : (rdLT (.ref a) S).bind allS = some ps := by rw [rdLT_lst h]; exact all_str ps
  unfold joinM
  dsimp only
  rw [e]
  dsimp only
  rw [if_pos hl, show Txt.join y ps = Str.join y ps from glued_eq_join y ps]
theorem join_txo {y : Str} {ps : List Str} {n k : Nat} (hy : LoS y) (hps : ∀ p ∈ ps, Txo p n) (hk : ps.length ≤ k) : LoS (Str.join y ps) ∧ (Str.join y ps).length ≤ k * (n + y.length) ∧ (ps.map (·.length)).sum + ps.length * y.length ≤ k * (n + y.length) := by
  have h2 := sum_le (B := n) (l := ps.map (·.length)) (fun x hx => by
    obtain ⟨p, hp, rfl⟩ := List.mem_map.mp hx
    exact (hps p hp).2)
  rw [List.length_map] at h2
  have h1 := join_length_le y ps
  have h3 : ps.length * n + ps.length * y.length ≤ k * (n + y.length) := by rw [← Nat.mul_add]; exact Nat.mul_le_mul_right _ hk
  exact ⟨join_low hy fun p hp => (hps p hp).1, by omega, by omega⟩
theorem word63 {S : Sto} {N : Int} {q : Nat} {v0 v2 v3 v4 v6 : Option V} {ws : List Str} (kq : S[q]? = some (.lst (ws.map V.str))) (hws : ∀ p ∈ ws, Txo p 63) (hl : ws.length ≤ 10) :
    ∃ (N' : Int) (w : Str) (S' : Sto) (v7 v8 : Option V), b__law_written_1 [v0, some (.int N), v2, v3, v4, some (.ref q), v6, none, none] S = .ok (.nx [v0, some (.int N'), v2, v3, v4, some (.ref q), v6, v7, v8]) S' ∧ Txo w 63 ∧ S'[q]? = some (.lst ((ws ++ [w]).map V.str)) ∧ Up [q] S S' := by
  obtain ⟨N', hN'⟩ : ∃ N' : Int, N' = (N * 48271 + 11) % (1000000000000000000000000000000000000 + 67) := ⟨_, rfl⟩
  have hi : 0 ≤ N' / 8191 % 4 ∧ N' / 8191 % 4 < 4 := by omega
  have q1 := snew S (.lst ([1, 2, 3, 7].map V.int))
  have u1 := Up.app [] S [.lst ([1, 2, 3, 7].map V.int)]
  have x1 := rix (row := [1, 2, 3, 7]) q1 hi.1 (by simp; omega)
  have hB : 1 ≤ ([1, 2, 3, 7] : List Int).getD (N' / 8191 % 4).toNat 0 ∧ ([1, 2, 3, 7] : List Int).getD (N' / 8191 % 4).toNat 0 ≤ 7 := by
    have : (N' / 8191 % 4).toNat = 0 ∨ (N' / 8191 % 4).toNat = 1 ∨ (N' / 8191 % 4).toNat = 2 ∨ (N' / 8191 % 4).toNat = 3 := by omega
    rcases this with h | h | h | h <;> rw [h] <;> decide
  generalize ([1, 2, 3, 7] : List Int).getD (N' / 8191 % 4).toNat 0 = B at x1 hB
  obtain ⟨b, rfl⟩ := Int.eq_ofNat_of_zero_le (show 0 ≤ B by omega)
  simp only [List.map_cons, List.map_nil] at q1 u1 x1
  generalize hS1 : S ++ [Ob.lst [V.int 1, V.int 2, V.int 3, V.int 7]] = S1 at q1 u1 x1
  have k1 := u1.get kq
  have so := shared_ok (S := S1) (N' / 97 % 41 - 20) b
  have sl : PySem.Str.ofString "/" = sSl := rfl
  have t1 := textM_is (t := N' / 97 % 41 - 20) (by omega)
  have tl1 := txt_len (t := N' / 97 % 41 - 20) (by omega)
  have isq := isLs_of (rdL_lst k1)
  -- the end, whatever the bottom
  have fin : ∀ d : Nat, d = b ∨ d = 1 → ∃ (w : Str) (S' : Sto), (sEx (eM isLs appM (eV 5) (aCons (eO addM (eA textM (aCons (eV 7) aNil)) (eO ixM (eLst (aCons (eC (.str (PySem.Str.ofString ""))) (aCons (eO addM (eC (.str (PySem.Str.ofString "/"))) (eA textM (aCons (eV 8) aNil))) aNil))) (eA intM (aCons (eO gtM (eV 8) (eC (.int 1))) aNil)))) aNil))) [v0, some (.int N'), v2, v3, v4, some (.ref q), v6, some (.int (N' / 97 % 41 - 20)), some (.int (d : Int))] S1 =
      .ok (.nx [v0, some (.int N'), v2, v3, v4, some (.ref q), v6, some (.int (N' / 97 % 41 - 20)), some (.int (d : Int))]) S' ∧ Txo w 63 ∧ S'[q]? = some (.lst ((ws ++ [w]).map V.str)) ∧ Up [q] S S' := by
    intro d hd
    have hd7 : 1 ≤ d ∧ d ≤ 7 := by omega
    have t2 := textM_is (t := (d : Int)) (by rw [Int.natAbs_natCast]; omega)
    have tl2 := txt_len (t := (d : Int)) (by rw [Int.natAbs_natCast]; omega)
    have s2 : ∀ S, strM (.str sSl) (.str (txt (d : Int))) S = .ok (.str (sSl ++ txt (d : Int))) S := fun S => strM_ok' (by decide +kernel) (by omega)
    have k2 := snew S1 (.lst [.str (PySem.Str.ofString ""), .str (sSl ++ txt (d : Int))])
    have u2 := Up.app [] S1 [.lst [.str (PySem.Str.ofString ""), .str (sSl ++ txt (d : Int))]]
    have l1 : sSl.length = 1 := by decide +kernel
    by_cases c : (d : Int) > 1
    · have x2 := ixQ_int (i := 1) (v := .str (sSl ++ txt (d : Int))) (rdLT_lst k2) (by decide) rfl
      generalize hS2 : S1 ++ [Ob.lst [.str (PySem.Str.ofString ""), .str (sSl ++ txt (d : Int))]] = S2 at k2 u2 x2
      have s3 : strM (.str (txt (N' / 97 % 41 - 20))) (.str (sSl ++ txt (d : Int))) S2 = .ok (.str (txt (N' / 97 % 41 - 20) ++ (sSl ++ txt (d : Int)))) S2 := strM_ok' (by omega) (by rw [Str.length_append]; omega)
      refine ⟨txt (N' / 97 % 41 - 20) ++ (sSl ++ txt (d : Int)), S2.set q (.lst (ws.map V.str ++ [V.str (txt (N' / 97 % 41 - 20) ++ (sSl ++ txt (d : Int)))])), ?_, ⟨LoS.app (txt_low _) (LoS.app (low_of (by decide +kernel)) (txt_low _)), ?_⟩, ?_, (u1.trans u2).any.trans (Up.set (List.mem_singleton.mpr rfl) _)⟩
      · simp (decide := true) only [ev, ex9, exA, exB, exD, exI, exJ, decide_true, decide_false, Bool.not_true, Bool.not_false, not_true, not_false_iff, eq_self, List.length_map, if_true, if_false, Bool.false_eq_true, isq, t1, t2, sl, s2, hS2, c, intM_bl, x2, s3, appM_at (u2.get k1) (by rw [List.length_map]; omega)]
      · rw [Str.length_append, Str.length_append]; omega
      · rw [sset_same (u2.get k1)]; simp
    · have x2 := ixQ_int (i := 0) (v := .str (PySem.Str.ofString "")) (rdLT_lst k2) (Int.le_refl 0) rfl
      generalize hS2 : S1 ++ [Ob.lst [.str (PySem.Str.ofString ""), .str (sSl ++ txt (d : Int))]] = S2 at k2 u2 x2
      have s3 : strM (.str (txt (N' / 97 % 41 - 20))) (.str (PySem.Str.ofString "")) S2 = .ok (.str (txt (N' / 97 % 41 - 20) ++ PySem.Str.ofString "")) S2 := strM_ok' (by omega) (by decide +kernel)
      refine ⟨txt (N' / 97 % 41 - 20) ++ PySem.Str.ofString "", S2.set q (.lst (ws.map V.str ++ [V.str (txt (N' / 97 % 41 - 20) ++ PySem.Str.ofString "")])), ?_, ⟨LoS.app (txt_low _) (low_of (by decide +kernel)), ?_⟩, ?_, (u1.trans u2).any.trans (Up.set (List.mem_singleton.mpr rfl) _)⟩
      · simp (decide := true) only [ev, ex9, exA, exB, exD, exI, exJ, decide_true, decide_false, Bool.not_true, Bool.not_false, not_true, not_false_iff, eq_self, List.length_map, if_true, if_false, Bool.false_eq_true, isq, t1, t2, sl, s2, hS2, c, intM_bl, x2, s3, appM_at (u2.get k1) (by rw [List.length_map]; omega)]
      · rw [Str.length_append, show (PySem.Str.ofString "").length = 0 from by decide +kernel]; omega
      · rw [sset_same (u2.get k1)]; simp
  have hcut : b__law_written_1 = (sSq (sSet 1 (eO modM (eO addM (eO mulM (eV 1) (eC (.int 48271))) (eC (.int 11))) (eO addM (eO powM (eC (.int 10)) (eC (.int 36))) (eC (.int 67)))))
    (sSq (sSet 7 (eO subM (eO modM (eO fdivM (eV 1) (eC (.int 97))) (eC (.int 41))) (eC (.int 20))))
    (sSq (sSet 8 (eO ixM (eLst (aCons (eC (.int 1)) (aCons (eC (.int 2)) (aCons (eC (.int 3)) (aCons (eC (.int 7)) aNil))))) (eO modM (eO fdivM (eV 1) (eC (.int 8191))) (eC (.int 4)))))
    (sSq (sIf (tV (eO neM (eCl 2 r__law_shared (aCons (eV 7) (aCons (eV 8) aNil))) (eC (.int 1))))
    (sSet 8 (eC (.int 1)))
    sNx)
    (sEx (eM isLs appM (eV 5) (aCons (eO addM (eA textM (aCons (eV 7) aNil)) (eO ixM (eLst (aCons (eC (.str (PySem.Str.ofString ""))) (aCons (eO addM (eC (.str (PySem.Str.ofString "/"))) (eA textM (aCons (eV 8) aNil))) aNil))) (eA intM (aCons (eO gtM (eV 8) (eC (.int 1))) aNil)))) aNil))))))) := rfl
  generalize (sEx (eM isLs appM (eV 5) (aCons (eO addM (eA textM (aCons (eV 7) aNil)) (eO ixM (eLst (aCons (eC (.str (PySem.Str.ofString ""))) (aCons (eO addM (eC (.str (PySem.Str.ofString "/"))) (eA textM (aCons (eV 8) aNil))) aNil))) (eA intM (aCons (eO gtM (eV 8) (eC (.int 1))) aNil)))) aNil))) = cE at fin hcut
  have mN : ∀ S, modM (.int (N * 48271 + 11)) (.int (1000000000000000000000000000000000000 + 67)) S = .ok (.int N') S := fun S => by rw [hN']; exact modM_pos (by decide) S
  by_cases c : ((Nat.gcd (N' / 97 % 41 - 20).natAbs b : Nat) : Int) = 1
  · obtain ⟨w, S', e, hw, k, u⟩ := fin b (.inl rfl)
    refine ⟨N', w, S', some (.int (N' / 97 % 41 - 20)), some (.int (b : Int)), ?_, hw, k, u⟩
    simp (decide := true) only [ev, ex9, exA, exB, exD, exI, exJ, decide_true, decide_false, Bool.not_true, Bool.not_false, not_true, not_false_iff, eq_self, List.length_map, if_true, if_false, Bool.false_eq_true, hcut, t36, z36, mulM_r (i := N) (j := 48271) (by decide), mN, hS1, x1, so, c, e]
  · obtain ⟨w, S', e, hw, k, u⟩ := fin 1 (.inr rfl)
    refine ⟨N', w, S', some (.int (N' / 97 % 41 - 20)), some (.int ((1 : Nat) : Int)), ?_, hw, k, u⟩
    have e : cE [v0, some (.int N'), v2, v3, v4, some (.ref q), v6, some (.int (N' / 97 % 41 - 20)), some (.int 1)] S1 = _ := e
    simp (decide := true) only [ev, ex9, exA, exB, exD, exI, exJ, decide_true, decide_false, Bool.not_true, Bool.not_false, not_true, not_false_iff, eq_self, List.length_map, if_true, if_false, Bool.false_eq_true, hcut, t36, z36, mulM_r (i := N) (j := 48271) (by decide), mN, hS1, x1, so, c, e]
theorem low1 {c : Nat} {p : List Nat → Prop} (h : c < 256) : LoS ⟨#[c]⟩ := fun x hx => by
  have : x = c := by simpa using hx
  omega
theorem written63 {S : Sto} {ns : List Int} (h0 : rdL (.ref 0) S = some (ns.map V.int)) : ∃ (x : Str) (S' : Sto), r__law_written [.ref 0] S = .ok (.str x) S' ∧ Up [] S S' ∧ Txo x 582 := by
  obtain ⟨N, e0, hN⟩ := mixed_ok h0 (x := 13) (by unfold Drw; decide)
  obtain ⟨w, hw⟩ := Int.eq_ofNat_of_zero_le (show 0 ≤ 1 + N / 3 % 3 by omega)
  obtain ⟨h, hh⟩ := Int.eq_ofNat_of_zero_le (show 0 ≤ 1 + N % 3 by omega)
  have hw3 : 1 ≤ w ∧ w ≤ 3 := by omega
  have hh3 : 1 ≤ h ∧ h ≤ 3 := by omega
  have u1 := Up.app [] S [.lst []]
  have q1 := snew S (.lst [])
  have l1 : S.length < (S ++ [Ob.lst []]).length := by simp
  generalize hS1 : S ++ [Ob.lst []] = S1 at u1 q1 l1
  generalize hf : S.length = f at q1 l1
  have sb : PySem.Str.ofString " " = sBl := rfl
  have ss : PySem.Str.ofString "; " = sSm := rfl
  obtain ⟨σ2, S2, e2, N2, ps, rfl, u2, k2, hps, hpl, _⟩ := forM_inv (chk := chkY) (tg := gI1 4) (ws := [4, 5, 6, 7, 8]) (body := b__law_written_2) (items := (List.range h).map (oneR 0))
    (fun i σ S' => ∃ (N' : Int) (ps : List Str), σ = [some (.ref 0), some (.int N'), some (.int (w : Int)), some (.ref f), none, none, none, none, none] ∧ Up [] S S' ∧ S'[f]? = some (.lst (ps.map V.str)) ∧ (∀ p ∈ ps, Txo p 192) ∧ ps.length = i ∧ f < S'.length) (fun _ _ _ _ => rfl)
    (fun i it σ S' hx ⟨N', ps, hσ, u, k, hps, hpl, lf⟩ => by
      subst hσ
      rw [List.getElem?_map] at hx
      obtain ⟨y, hy, rfl⟩ := Option.map_eq_some_iff.mp hx
      obtain ⟨hi, rfl⟩ := rng_at hy
      refine ⟨_, gI1_one _ _ _ _, ?_⟩
      rw [Int.zero_add]
      have u3 := Up.app [] S' [.lst []]
      have q3 := snew S' (.lst [])
      have k3 := u3.get k
      simp (decide := true) only [ev, ex9, exA, exB, exD, exI, exJ, decide_true, decide_false, Bool.not_true, Bool.not_false, not_true, not_false_iff, eq_self, List.length_map, if_true, if_false, Bool.false_eq_true, b__law_written_2]
      rw [rng1_ok (by omega), items_rng, Int.toNat_natCast]
      simp (decide := true) only [ev, ex9, exA, exB, exD, exI, exJ, decide_true, decide_false, Bool.not_true, Bool.not_false, not_true, not_false_iff, eq_self, List.length_map, if_true, if_false, Bool.false_eq_true]
      generalize S' ++ [Ob.lst []] = S3 at u3 q3 k3 ⊢
      generalize hq : S'.length = q at q3 lf ⊢
      obtain ⟨σ4, S4, e4, N4, ws, rfl, u4, k4, hws, hwl⟩ := forM_inv (chk := chkY) (tg := gI1 6) (ws := [6, 7, 8]) (body := b__law_written_1) (items := (List.range w).map (oneR 0))
        (fun j σ S'' => ∃ (N'' : Int) (ws : List Str), σ = [some (.ref 0), some (.int N''), some (.int (w : Int)), some (.ref f), some (.int (i : Int)), some (.ref q), none, none, none] ∧ Up [q] S3 S'' ∧ S''[q]? = some (.lst (ws.map V.str)) ∧ (∀ p ∈ ws, Txo p 63) ∧ ws.length = j) (fun _ _ _ _ => rfl)
        (fun j it σ S'' hx ⟨N'', ws, hσ, u5, k5, hws, hwl⟩ => by
          subst hσ
          rw [List.getElem?_map] at hx
          obtain ⟨y, hy, rfl⟩ := Option.map_eq_some_iff.mp hx
          obtain ⟨hj, rfl⟩ := rng_at hy
          refine ⟨_, gI1_one _ _ _ _, ?_⟩
          rw [Int.zero_add]
          obtain ⟨N6, wd, S6, v7, v8, e6, hwd, k6, u6⟩ := word63 (S := S'') (N := N'') (v0 := some (.ref 0)) (v2 := some (.int (w : Int))) (v3 := some (.ref f)) (v4 := some (.int (i : Int))) (v6 := some (.int (j : Int))) k5 hws (by omega)
          simp only [List.set]
          rw [e6]
          refine ⟨N6, ws ++ [wd], by first | rfl | trivial, u5.trans u6, k6, fun p hp => ?_, by simp [hwl]⟩
          rcases List.mem_append.mp hp with hp | hp
          · exact hws p hp
          · rw [List.mem_singleton.mp hp]; exact hwd) (σ := [some (.ref 0), some (.int N'), some (.int (w : Int)), some (.ref f), some (.int (i : Int)), some (.ref q), none, none, none]) (S := S3) ⟨N', [], rfl, Up.refl _ _, q3, (fun _ h => nomatch h), rfl⟩
      rw [e4]
      rw [List.length_map, List.length_range] at hwl
      have k4f := u4.at' _ _ (show f ∉ [q] from fun hm => by have := List.mem_singleton.mp hm; omega) k3
      obtain ⟨j1, j2, j3⟩ := join_txo (y := sBl) (ps := ws) (n := 63) (k := 3) (low_of (by decide +kernel)) hws (by omega)
      have sl1 : sBl.length = 1 := by decide +kernel
      have jn := join_ok (y := sBl) k4 (by omega)
      have jn2 : joinM (.str sBl) [.ref q] S4 = .ok (.str (Str.join sBl ws)) S4 := jn
      simp (decide := true) only [ev, ex9, exA, exB, exD, exI, exJ, decide_true, decide_false, Bool.not_true, Bool.not_false, not_true, not_false_iff, eq_self, List.length_map, if_true, if_false, Bool.false_eq_true, isLs_of (rdL_lst k4f), isSt, sb, jn2, appM_at k4f (by rw [List.length_map]; omega), Tn_nx]
      have fS : S.length ≤ f := by omega
      refine ⟨N4, ps ++ [Str.join sBl ws], by first | rfl | trivial, ((u.trans u3).new' u4 (fun m hm => by rw [List.mem_singleton.mp hm]; have := u.len; omega)).setNew fS _, by rw [sset_same k4f]; simp, fun p hp => ?_, by simp [hpl], by have := u4.len; have := u3.len; simp; omega⟩
      rcases List.mem_append.mp hp with hp | hp
      · exact hps p hp
      · rw [List.mem_singleton.mp hp]; exact ⟨j1, by omega⟩) (σ := [some (.ref 0), some (.int N), some (.int (w : Int)), some (.ref f), none, none, none, none, none]) (S := S1) ⟨N, [], rfl, u1, q1, (fun _ h => nomatch h), rfl, l1⟩
  rw [List.length_map, List.length_range] at hpl
  obtain ⟨j1, j2, j3⟩ := join_txo (y := sSm) (ps := ps) (n := 192) (k := 3) (low_of (by decide +kernel)) hps (by omega)
  have sl2 : sSm.length = 2 := by decide +kernel
  have jn := join_ok (y := sSm) k2 (by omega)
  have jn2 : joinM (.str sSm) [.ref f] S2 = .ok (.str (Str.join sSm ps)) S2 := jn
  refine ⟨Str.join sSm ps, S2, ?_, u2, j1, by omega⟩
  simp (decide := true) only [ev, ex9, exA, exB, exD, exI, exJ, decide_true, decide_false, Bool.not_true, Bool.not_false, not_true, not_false_iff, eq_self, List.length_map, if_true, if_false, Bool.false_eq_true, r__law_written_eq, c__law_written, e0, hw, hh, hS1, hf]
  rw [rng1_ok (by omega), items_rng, Int.toNat_natCast]
  simp (decide := true) only [ev, ex9, exA, exB, exD, exI, exJ, decide_true, decide_false, Bool.not_true, Bool.not_false, not_true, not_false_iff, eq_self, List.length_map, if_true, if_false, Bool.false_eq_true, e2, isSt, ss, jn2]
/-! the text spoiled -/
theorem at_pos {xs : List Nat} {i : Int} (h : 0 ≤ i) : atI xs i = xs[i.toNat]? := by
  obtain ⟨n, rfl⟩ := Int.eq_ofNat_of_zero_le h
  unfold atI ixN
  by_cases c : (n : Int) < (xs.length : Int)
  · simp [c]
  · have : xs[n]? = none := List.getElem?_eq_none (by omega)
    simp [c, this]
theorem sign63 {S : Sto} {i : Int} (h : 0 ≤ i ∧ i < 18) : ∃ c, c < 256 ∧ ixM (.str (PySem.Str.ofString "0123/- ;9+.a1 -\n\t_")) (.int i) S = .ok (.str ⟨#[c]⟩) S := by
  have hl : (PySem.Str.ofString "0123/- ;9+.a1 -\n\t_").cps.toList.length = 18 := by decide +kernel
  have ll : (PySem.Str.ofString "0123/- ;9+.a1 -\n\t_").cps.toList.all (· < 256) = true := by decide +kernel
  have hz : (PySem.Str.ofString "0123/- ;9+.a1 -\n\t_").length ≤ lim := by rw [← str_len, hl]; unfold lim; omega
  generalize PySem.Str.ofString "0123/- ;9+.a1 -\n\t_" = z at hl ll hz
  have hi : i.toNat < z.cps.toList.length := by omega
  refine ⟨z.cps.toList[i.toNat], low_of ll _ (List.getElem_mem hi), ?_⟩
  show ixS z (.int i) S = _
  unfold ixS
  dsimp only
  rw [if_pos hz, at_pos h.1, List.getElem?_eq_getElem hi]
theorem len_of (l : List Nat) : (⟨l.toArray⟩ : Str).length = l.length := by rw [← str_len]
theorem spoil63 {S : Sto} {x : Str} {m : Nat} {cell : Int} (h : Txo x m) (hm : m ≤ 600) : ∃ (y : Str) (v3 v4 v5 : Option V), b__law_spoiled_1 [some (.str x), some (.ref 0), some (.int cell), none, none, none] S = .ok (.nx [some (.str y), some (.ref 0), some (.int cell), v3, v4, v5]) S ∧ Txo y (m + 1) := by
  obtain ⟨hl, hz⟩ := h
  obtain ⟨n, hn⟩ : ∃ n : Int, n = cell % 2147483647 * 48271 % 2147483647 := ⟨_, rfl⟩
  have n0 : 0 ≤ n := by omega
  obtain ⟨c, hc, sg⟩ := sign63 (S := S) (i := n / 4 % 18) (by omega)
  obtain ⟨k, hk⟩ := Int.eq_ofNat_of_zero_le (show 0 ≤ n / 64 % ((x.length : Int) + 1) from Int.emod_nonneg _ (by omega))
  have hkl : k ≤ x.length := by
    have := Int.emod_lt_of_pos (n / 64) (show (0 : Int) < (x.length : Int) + 1 by omega)
    omega
  have ln := len_str (S := S) (w := x) (by omega)
  have md : modM (.int (n / 64)) (.int ((x.length : Int) + 1)) S = .ok (.int (k : Int)) S := by rw [← hk]; exact modM_pos (by omega) S
  have m1 : mulM (.int (cell % 2147483647)) (.int 48271) S = .ok (.int (cell % 2147483647 * 48271)) S := mulM_r (by decide) S
  have m2 : modM (.int (cell % 2147483647 * 48271)) (.int 2147483647) S = .ok (.int n) S := by rw [hn]; exact modM_pos (by decide) S
  have cw : ∀ (lo hi : Option Int) (S : Sto), cutM (.str x) lo hi S = .ok (.str (cutS x lo hi)) S := fun lo hi S => cutM_str (by omega) lo hi
  have t0 := cutS_take x k
  have d0 := cutS_drop x k
  have d1 := cutS_drop x (k + 1)
  have e1 : ((k + 1 : Nat) : Int) = (k : Int) + 1 := by omega
  rw [e1] at d1
  have la := lo_take hl k
  have lb := lo_drop hl k
  have lc := lo_drop hl (k + 1)
  have za : (⟨(x.cps.toList.take k).toArray⟩ : Str).length = k := by rw [len_of, List.length_take, str_len]; omega
  have zb : (⟨(x.cps.toList.drop k).toArray⟩ : Str).length = x.length - k := by rw [len_of, List.length_drop, str_len]
  have zc : (⟨(x.cps.toList.drop (k + 1)).toArray⟩ : Str).length = x.length - (k + 1) := by rw [len_of, List.length_drop, str_len]
  have zs : (⟨#[c]⟩ : Str).length = 1 := rfl
  have ls : LoS ⟨#[c]⟩ := fun z hz => by
    have : z = c := by simpa using hz
    omega
  generalize (⟨(x.cps.toList.take k).toArray⟩ : Str) = A at *
  generalize (⟨(x.cps.toList.drop k).toArray⟩ : Str) = Bb at *
  generalize (⟨(x.cps.toList.drop (k + 1)).toArray⟩ : Str) = Cc at *
  generalize (⟨#[c]⟩ : Str) = sgn at *
  have s1 : strM (.str A) (.str sgn) S = .ok (.str (A ++ sgn)) S := strM_ok' (by omega) (by omega)
  have s2 : strM (.str (A ++ sgn)) (.str Bb) S = .ok (.str (A ++ sgn ++ Bb)) S := strM_ok' (by rw [Str.length_append]; omega) (by omega)
  have s3 : strM (.str (A ++ sgn)) (.str Cc) S = .ok (.str (A ++ sgn ++ Cc)) S := strM_ok' (by rw [Str.length_append]; omega) (by omega)
  have s4 : strM (.str A) (.str Cc) S = .ok (.str (A ++ Cc)) S := strM_ok' (by omega) (by omega)
  have c4 : n % 4 = 0 ∨ n % 4 = 1 ∨ n % 4 = 2 ∨ n % 4 = 3 := by omega
  have md4 : modM (.int n) (.int 4) S = .ok (.int (n % 4)) S := modM_pos (by decide) S
  rcases c4 with c4 | c4 | c4 | c4
  · refine ⟨A ++ sgn ++ Bb, some (.int n), some (.str sgn), some (.int (k : Int)), ?_, LoS.app (LoS.app la ls) lb, by rw [Str.length_append, Str.length_append]; omega⟩
    simp (decide := true) only [ev, ex9, exA, exB, exD, exI, exJ, decide_true, decide_false, Bool.not_true, Bool.not_false, not_true, not_false_iff, eq_self, List.length_map, if_true, if_false, Bool.false_eq_true, b__law_spoiled_1, m1, m2, sg, ln, md, md4, c4, cw, t0, d0, s1, s2]
  · refine ⟨A ++ Cc, some (.int n), some (.str sgn), some (.int (k : Int)), ?_, LoS.app la lc, by rw [Str.length_append]; omega⟩
    simp (decide := true) only [ev, ex9, exA, exB, exD, exI, exJ, decide_true, decide_false, Bool.not_true, Bool.not_false, not_true, not_false_iff, eq_self, List.length_map, if_true, if_false, Bool.false_eq_true, b__law_spoiled_1, m1, m2, sg, ln, md, md4, c4, cw, t0, d1, s4]
  · refine ⟨A ++ sgn ++ Cc, some (.int n), some (.str sgn), some (.int (k : Int)), ?_, LoS.app (LoS.app la ls) lc, by rw [Str.length_append, Str.length_append]; omega⟩
    simp (decide := true) only [ev, ex9, exA, exB, exD, exI, exJ, decide_true, decide_false, Bool.not_true, Bool.not_false, not_true, not_false_iff, eq_self, List.length_map, if_true, if_false, Bool.false_eq_true, b__law_spoiled_1, m1, m2, sg, ln, md, md4, c4, cw, t0, d1, s1, s3]
  · refine ⟨x, some (.int n), some (.str sgn), some (.int (k : Int)), ?_, hl, by omega⟩
    simp (decide := true) only [ev, ex9, exA, exB, exD, exI, exJ, decide_true, decide_false, Bool.not_true, Bool.not_false, not_true, not_false_iff, eq_self, List.length_map, if_true, if_false, Bool.false_eq_true, b__law_spoiled_1, m1, m2, sg, ln, md, md4, c4]
theorem spoiled63 {S : Sto} {ns : List Int} {x : Str} (h0 : rdL (.ref 0) S = some (ns.map V.int)) (h : Txo x 582) : ∃ (y : Str) (S' : Sto), r__law_spoiled [.str x, .ref 0] S = .ok (.str y) S' ∧ Up [] S S' ∧ Txo y 600 := by
  have ct := cutM_take (k := 6) (by decide) h0
  rw [← List.map_take] at ct
  have u1 := Up.app [] S [.lst ((ns.take (Int.toNat 6)).map V.int)]
  have q1 := snew S (.lst ((ns.take (Int.toNat 6)).map V.int))
  generalize hS1 : S ++ [Ob.lst ((ns.take (Int.toNat 6)).map V.int)] = S1 at ct u1 q1
  have hn6 : (ns.take (Int.toNat 6)).length ≤ 6 := by rw [List.length_take]; exact Nat.min_le_left _ _
  generalize ns.take (Int.toNat 6) = zs at *
  obtain ⟨σ2, S2, e2, ⟨y, rfl, hy⟩, rfl⟩ := forM_inv (chk := chkL (.ref S.length) (zs.map V.int)) (tg := gI1 2) (ws := [2, 3, 4, 5]) (body := b__law_spoiled_1) (items := zs.map oneI)
    (fun i σ S' => (∃ y : Str, σ = [some (.str y), some (.ref 0), none, none, none, none] ∧ Txo y (582 + i)) ∧ S' = S1) (fun _ _ _ e => by rw [e.2]; exact chkL_of (rdL_lst q1))
    (fun i it σ S' hx e => by
      obtain ⟨⟨y, rfl, hy⟩, rfl⟩ := e
      have hil := (List.getElem?_eq_some_iff.mp hx).1
      rw [List.length_map] at hil
      rw [List.getElem?_map] at hx
      obtain ⟨z, hz, rfl⟩ := Option.map_eq_some_iff.mp hx
      refine ⟨_, gI1_one _ _ _ _, ?_⟩
      obtain ⟨y', v3, v4, v5, e, hy'⟩ := spoil63 (S := S') (cell := z) hy (by omega)
      simp only [List.set]
      rw [e]
      exact ⟨⟨y', by first | rfl | trivial, hy'⟩, by first | rfl | trivial⟩) (σ := [some (.str x), some (.ref 0), none, none, none, none]) (S := S1) ⟨⟨x, rfl, h⟩, rfl⟩
  rw [List.length_map] at hy
  refine ⟨y, S2, ?_, u1, hy.1, by have := hy.2; omega⟩
  simp (decide := true) only [ev, ex9, exA, exB, exD, exI, exJ, decide_true, decide_false, Bool.not_true, Bool.not_false, not_true, not_false_iff, eq_self, List.length_map, if_true, if_false, Bool.false_eq_true, r__law_spoiled_eq, c__law_spoiled, ct, hS1, rdL_lst q1, items_int, e2]
/-! odd things -/
noncomputable def cO1 : St → Sto → R Fl := (sSet 1 (eLst (aCons (eC (.str (PySem.Str.ofString ""))) (aCons (eC (.str (PySem.Str.ofString " "))) (aCons (eC (.str (PySem.Str.ofString "1 "))) (aCons (eC (.str (PySem.Str.ofString " 1"))) (aCons (eC (.str (PySem.Str.ofString "1;"))) (aCons (eC (.str (PySem.Str.ofString "1; "))) (aCons (eC (.str (PySem.Str.ofString "; 1"))) (aCons (eC (.str (PySem.Str.ofString "1;2"))) (aCons (eC (.str (PySem.Str.ofString "1 ; 2"))) (aCons (eC (.str (PySem.Str.ofString "1  2"))) (aCons (eC (.str (PySem.Str.ofString "2/4"))) (aCons (eC (.str (PySem.Str.ofString "3/1"))) (aCons (eC (.str (PySem.Str.ofString "0/5"))) (aCons (eC (.str (PySem.Str.ofString "+1"))) (aCons (eC (.str (PySem.Str.ofString "-0"))) (aCons (eC (.str (PySem.Str.ofString "01"))) aNil))))))))))))))))))
noncomputable def cO2 : St → Sto → R Fl := (sSet 1 (eO addM (eV 1) (eLst (aCons (eC (.str (PySem.Str.ofString "1\n2"))) (aCons (eC (.str (PySem.Str.ofString "1 2;\n3 4"))) (aCons (eC (.str (PySem.Str.ofString "1_0"))) (aCons (eC (.str (PySem.Str.ofString "1\t2"))) aNil)))))))
noncomputable def cO3 : St → Sto → R Fl := (sSet 1 (eO addM (eV 1) (eLst (aCons (eC (.str (PySem.Str.ofString "1//2"))) (aCons (eC (.str (PySem.Str.ofString "1/-2"))) (aCons (eC (.str (PySem.Str.ofString "1/0"))) (aCons (eC (.str (PySem.Str.ofString "-"))) (aCons (eC (.str (PySem.Str.ofString "/2"))) (aCons (eC (.str (PySem.Str.ofString "1; 1 2"))) (aCons (eC .non) (aCons (eC (.int 3)) (aCons (eLst (aCons (eC (.str (PySem.Str.ofString "1"))) aNil)) (aCons (eC (.str (PySem.Str.ofString "-0/2"))) aNil)))))))))))))
noncomputable def cO4 : St → Sto → R Fl := (sSet 1 (eO addM (eV 1) (eLst (aCons (eO addM (eO addM (eO addM (eO mulSM (eC (.str (PySem.Str.ofString "9"))) (eC (.int 30))) (eC (.str (PySem.Str.ofString "/")))) (eO mulSM (eC (.str (PySem.Str.ofString "9"))) (eC (.int 29)))) (eC (.str (PySem.Str.ofString "8")))) (aCons (eO mulSM (eC (.str (PySem.Str.ofString "9"))) (eC (.int 31))) (aCons (eO addM (eC (.str (PySem.Str.ofString "1/1"))) (eO mulSM (eC (.str (PySem.Str.ofString "0"))) (eC (.int 30)))) aNil))))))
noncomputable def cO5 : St → Sto → R Fl := (sSet 1 (eO addM (eV 1) (eLst (aCons (eM isSt joinM (eC (.str (PySem.Str.ofString " "))) (aCons (eO mulM (eLst (aCons (eC (.str (PySem.Str.ofString "1"))) aNil)) (eC (.int 9))) aNil)) (aCons (eM isSt joinM (eC (.str (PySem.Str.ofString "; "))) (aCons (eO mulM (eLst (aCons (eC (.str (PySem.Str.ofString "1/2"))) aNil)) (eC (.int 9))) aNil)) (aCons (eM isSt joinM (eC (.str (PySem.Str.ofString "; "))) (aCons (eO mulM (eLst (aCons (eC (.str (PySem.Str.ofString "1 2 3 4 5 6 7 8"))) aNil)) (eC (.int 8))) aNil)) aNil))))))
noncomputable def cO6 : St → Sto → R Fl := (sRet (eO ixM (eV 1) (eO modM (eV 0) (eA lenM (aCons (eV 1) aNil)))))
theorem c_odd_cut : c__law_odd = sSq cO1 (sSq cO2 (sSq cO3 (sSq cO4 (sSq cO5 cO6)))) := rfl
def okV : V → Bool
  | .str x => x.cps.toList.all (· < 256) && decide (x.length ≤ 600)
  | .non => true
  | .int _ => true
  | _ => false
def OkV (S : Sto) (v : V) : Prop := okV v = true ∨ ∃ (r : Nat) (xs : List V), v = .ref r ∧ S[r]? = some (.lst xs)
theorem OkV.up {S S' : Sto} {v : V} (u : Up [] S S') : OkV S v → OkV S' v
  | .inl h => .inl h
  | .inr ⟨r, xs, e, k⟩ => .inr ⟨r, xs, e, u.get k⟩
theorem asked_any {S : Sto} {v : V} (h : OkV S v) : ∃ S', r__law_asked [v] S = .ok (.bl true) S' ∧ Up [] S S' := by
  rcases h with h | ⟨r, xs, rfl, k⟩
  · cases v with
    | str x =>
      have h : (x.cps.toList.all (· < 256) && decide (x.length ≤ 600)) = true := h
      rw [Bool.and_eq_true, decide_eq_true_eq] at h
      exact asked_str ⟨low_of h.1, h.2⟩
    | non => exact asked_odd fun _ _ => rfl
    | int i => exact asked_odd fun _ _ => rfl
    | _ => cases h
  · exact asked_odd fun S' u => by rw [isi_of (tyN_lst (u.get k)) (by decide)]; rfl
theorem ok_all {S : Sto} {L : List V} (h : L.all okV = true) : ∀ v ∈ L, OkV S v := fun v hv => .inl (List.all_eq_true.mp h v hv)
theorem mulS_is {S : Sto} {s : Str} {k : Int} (h1 : s.length ≤ 16) (h2 : 0 ≤ k ∧ k ≤ 1000) : mulSM (.str s) (.int k) S = .ok (.str (Txt.mul s k)) S := by
  unfold mulSM
  dsimp only
  rw [if_pos ⟨h1, h2⟩]
theorem rep_join {σ : St} {S : Sto} {y a : Str} {k : Int} {n : Nat} (hk : k = (n : Int)) (hn : n ≤ 100) (ha : a.length ≤ 100) (hy : y.length ≤ 100) : ∃ S', eM isSt joinM (eC (.str y)) (aCons (eO mulM (eLst (aCons (eC (.str a)) aNil)) (eC (.int k))) aNil) σ S = .ok (.str (Str.join y (List.replicate n a))) S' ∧ Up [] S S' := by
  subst hk
  have u1 := Up.app [] S [.lst [.str a]]
  have k1 := snew S (.lst [.str a])
  have rp := repM_at (k := n) k1 (by omega) (by simp)
  have hf : ∀ n : Nat, (List.replicate n [V.str a]).flatten = (List.replicate n a).map V.str := by
    intro n
    induction n with
    | zero => rfl
    | succ n ih => rw [List.replicate_succ, List.replicate_succ, List.flatten_cons, List.map_cons, ih]; rfl
  rw [hf] at rp
  generalize hS1 : S ++ [Ob.lst [V.str a]] = S1 at u1 k1 rp
  have u2 := Up.app [] S1 [.lst ((List.replicate n a).map V.str)]
  have k2 := snew S1 (.lst ((List.replicate n a).map V.str))
  have h2 := sum_le (B := 100) (l := (List.replicate n a).map (·.length)) (fun x hx => by
    obtain ⟨p, hp, rfl⟩ := List.mem_map.mp hx
    rw [List.eq_of_mem_replicate hp]; exact ha)
  rw [List.length_map, List.length_replicate] at h2
  have h3 : n * y.length ≤ 100 * 100 := Nat.mul_le_mul hn hy
  have jn := join_ok (y := y) k2 (by rw [List.length_replicate]; omega)
  refine ⟨_, ?_, u1.trans u2⟩
  simp (decide := true) only [ev, ex9, exA, exB, exD, exI, exJ, decide_true, decide_false, Bool.not_true, Bool.not_false, not_true, not_false_iff, eq_self, List.length_map, if_true, if_false, Bool.false_eq_true, isSt, hS1, mulM_rep, rp, jn]
theorem kLst_any {ys : List V} (h : ys.length ≤ 1000) (S : Sto) : kLst (.ok ys S) = .ok (.ref S.length) (S ++ [.lst ys]) := by rw [kLst_ok, if_pos (by omega)]
theorem step_odd {S S1 : Sto} {n p : Nat} {i : Int} {xs ys : List V} {m : St → Sto → R (List V)} (hp : S[p]? = some (.lst xs)) (hm : m [some (.int i), some (.ref p)] S = .ok ys S1) (u : Up [] S S1) (hl : xs.length + ys.length ≤ 1000) :
    ∃ (S' : Sto) (q : Nat), sSet 1 (eO addM (eV 1) (eLst m)) [some (.int i), some (.ref p)] S = .ok (.nx [some (.int i), some (.ref q)]) S' ∧ Up [] S S' ∧ S'[q]? = some (.lst (xs ++ ys)) ∧ Up [] S1 S' := by
  have u2 := Up.app [] S1 [.lst ys]
  have k2 := snew S1 (.lst ys)
  have ct := catM_at (u2.get (u.get hp)) k2 (by omega)
  refine ⟨_, _, ?_, (u.trans u2).trans (Up.app _ _ _), snew _ _, u2.trans (Up.app _ _ _)⟩
  simp (decide := true) only [ev, ex9, exA, exB, exD, exI, exJ, decide_true, decide_false, Bool.not_true, Bool.not_false, not_true, not_false_iff, eq_self, List.length_map, if_true, if_false, Bool.false_eq_true, hm, kLst_any (show ys.length ≤ 1000 by omega), ct]
theorem odd63 {S : Sto} (i : Int) : ∃ (v : V) (S' : Sto), r__law_odd [.int i] S = .ok v S' ∧ Up [] S S' ∧ OkV S' v := by
  have e1 : ∃ L, cO1 [some (.int i), none] S = .ok (.nx [some (.int i), some (.ref S.length)]) (S ++ [.lst L]) ∧ L.all okV = true ∧ L.length = 16 := by
    refine ⟨[.str (PySem.Str.ofString ""), .str (PySem.Str.ofString " "), .str (PySem.Str.ofString "1 "), .str (PySem.Str.ofString " 1"), .str (PySem.Str.ofString "1;"), .str (PySem.Str.ofString "1; "), .str (PySem.Str.ofString "; 1"), .str (PySem.Str.ofString "1;2"), .str (PySem.Str.ofString "1 ; 2"), .str (PySem.Str.ofString "1  2"), .str (PySem.Str.ofString "2/4"), .str (PySem.Str.ofString "3/1"), .str (PySem.Str.ofString "0/5"), .str (PySem.Str.ofString "+1"), .str (PySem.Str.ofString "-0"), .str (PySem.Str.ofString "01")], ?_, by decide +kernel, rfl⟩
    simp (decide := true) only [ev, ex9, exA, exB, exD, exI, exJ, decide_true, decide_false, Bool.not_true, Bool.not_false, not_true, not_false_iff, eq_self, List.length_map, if_true, if_false, Bool.false_eq_true, cO1]
    rw [kLst_any (by simp)]
    simp (decide := true) only [ev, ex9, exA, exB, exD, exI, exJ, decide_true, decide_false, Bool.not_true, Bool.not_false, not_true, not_false_iff, eq_self, List.length_map, if_true, if_false, Bool.false_eq_true]
  obtain ⟨L1, e1, a1, n1⟩ := e1
  have u1 := Up.app [] S [.lst L1]
  have k1 := snew S (.lst L1)
  generalize S ++ [Ob.lst L1] = S1 at e1 u1 k1
  generalize S.length = p1 at e1 k1
  have e2 : ∃ (L : List V) (S2 : Sto) (p2 : Nat), cO2 [some (.int i), some (.ref p1)] S1 = .ok (.nx [some (.int i), some (.ref p2)]) S2 ∧ Up [] S1 S2 ∧ S2[p2]? = some (.lst (L1 ++ L)) ∧ L.all okV = true ∧ L.length = 4 := by
    obtain ⟨S2, p2, e, u, k, _⟩ := step_odd (m := (aCons (eC (.str (PySem.Str.ofString "1\n2"))) (aCons (eC (.str (PySem.Str.ofString "1 2;\n3 4"))) (aCons (eC (.str (PySem.Str.ofString "1_0"))) (aCons (eC (.str (PySem.Str.ofString "1\t2"))) aNil))))) (i := i) (n := 0) k1 (by simp (decide := true) only [ev, ex9, exA, exB, exD, exI, exJ, decide_true, decide_false, Bool.not_true, Bool.not_false, not_true, not_false_iff, eq_self, List.length_map, if_true, if_false, Bool.false_eq_true]; rfl) (Up.refl _ _) (by rw [n1]; decide)
    exact ⟨_, S2, p2, e, u, k, by decide +kernel, rfl⟩
  obtain ⟨L2, S2, p2, e2, u2, k2, a2, n2⟩ := e2
  have e3 : ∃ (L : List V) (S3 : Sto) (p3 : Nat), cO3 [some (.int i), some (.ref p2)] S2 = .ok (.nx [some (.int i), some (.ref p3)]) S3 ∧ Up [] S2 S3 ∧ S3[p3]? = some (.lst (L1 ++ L2 ++ L)) ∧ (∀ v ∈ L, OkV S3 v) ∧ L.length = 10 := by
    have v1 := Up.app [] S2 [.lst [.str (PySem.Str.ofString "1")]]
    have w1 := snew S2 (.lst [.str (PySem.Str.ofString "1")])
    obtain ⟨S3, p3, e, u, k, hge⟩ := step_odd (m := (aCons (eC (.str (PySem.Str.ofString "1//2"))) (aCons (eC (.str (PySem.Str.ofString "1/-2"))) (aCons (eC (.str (PySem.Str.ofString "1/0"))) (aCons (eC (.str (PySem.Str.ofString "-"))) (aCons (eC (.str (PySem.Str.ofString "/2"))) (aCons (eC (.str (PySem.Str.ofString "1; 1 2"))) (aCons (eC .non) (aCons (eC (.int 3)) (aCons (eLst (aCons (eC (.str (PySem.Str.ofString "1"))) aNil)) (aCons (eC (.str (PySem.Str.ofString "-0/2"))) aNil)))))))))))
      (S1 := S2 ++ [.lst [.str (PySem.Str.ofString "1")]]) (ys := [.str (PySem.Str.ofString "1//2"), .str (PySem.Str.ofString "1/-2"), .str (PySem.Str.ofString "1/0"), .str (PySem.Str.ofString "-"), .str (PySem.Str.ofString "/2"), .str (PySem.Str.ofString "1; 1 2"), .non, .int 3, .ref S2.length, .str (PySem.Str.ofString "-0/2")]) (i := i) (n := 0) k2 (by simp (decide := true) only [ev, ex9, exA, exB, exD, exI, exJ, decide_true, decide_false, Bool.not_true, Bool.not_false, not_true, not_false_iff, eq_self, List.length_map, if_true, if_false, Bool.false_eq_true]) v1 (by rw [List.length_append, n1, n2]; simp)
    refine ⟨_, S3, p3, e, u, k, fun v hv => ?_, rfl⟩
    have hs : ([V.str (PySem.Str.ofString "1//2"), V.str (PySem.Str.ofString "1/-2"), V.str (PySem.Str.ofString "1/0"), V.str (PySem.Str.ofString "-"), V.str (PySem.Str.ofString "/2"), V.str (PySem.Str.ofString "1; 1 2"), V.non, V.int 3, V.str (PySem.Str.ofString "-0/2")].all okV) = true := by decide +kernel
    by_cases c : v = .ref S2.length
    · exact .inr ⟨S2.length, _, c, hge.get w1⟩
    · refine ok_all hs v ?_
      simp only [List.mem_cons, List.not_mem_nil, or_false] at hv ⊢
      rcases hv with h | h | h | h | h | h | h | h | h | h
      · exact .inl h
      · exact .inr (.inl h)
      · exact .inr (.inr (.inl h))
      · exact .inr (.inr (.inr (.inl h)))
      · exact .inr (.inr (.inr (.inr (.inl h))))
      · exact .inr (.inr (.inr (.inr (.inr (.inl h)))))
      · exact .inr (.inr (.inr (.inr (.inr (.inr (.inl h))))))
      · exact .inr (.inr (.inr (.inr (.inr (.inr (.inr (.inl h)))))))
      · exact absurd h c
      · exact .inr (.inr (.inr (.inr (.inr (.inr (.inr (.inr h)))))))
  obtain ⟨L3, S3, p3, e3, u3, k3, a3, n3⟩ := e3
  have e4 : ∃ (L : List V) (S4 : Sto) (p4 : Nat), cO4 [some (.int i), some (.ref p3)] S3 = .ok (.nx [some (.int i), some (.ref p4)]) S4 ∧ Up [] S3 S4 ∧ S4[p4]? = some (.lst (L1 ++ L2 ++ L3 ++ L)) ∧ L.all okV = true ∧ L.length = 3 := by
    have m1 : ∀ S, mulSM (.str (PySem.Str.ofString "9")) (.int 30) S = .ok (.str (Txt.mul (PySem.Str.ofString "9") 30)) S := fun S => mulS_is (by decide +kernel) (by decide)
    have m2 : ∀ S, mulSM (.str (PySem.Str.ofString "9")) (.int 29) S = .ok (.str (Txt.mul (PySem.Str.ofString "9") 29)) S := fun S => mulS_is (by decide +kernel) (by decide)
    have m3 : ∀ S, mulSM (.str (PySem.Str.ofString "9")) (.int 31) S = .ok (.str (Txt.mul (PySem.Str.ofString "9") 31)) S := fun S => mulS_is (by decide +kernel) (by decide)
    have m4 : ∀ S, mulSM (.str (PySem.Str.ofString "0")) (.int 30) S = .ok (.str (Txt.mul (PySem.Str.ofString "0") 30)) S := fun S => mulS_is (by decide +kernel) (by decide)
    have s1 : ∀ S, strM (.str (Txt.mul (PySem.Str.ofString "9") 30)) (.str (PySem.Str.ofString "/")) S = .ok (.str (Txt.mul (PySem.Str.ofString "9") 30 ++ PySem.Str.ofString "/")) S := fun S => strM_ok' (by decide +kernel) (by decide +kernel)
    have s2 : ∀ S, strM (.str (Txt.mul (PySem.Str.ofString "9") 30 ++ PySem.Str.ofString "/")) (.str (Txt.mul (PySem.Str.ofString "9") 29)) S = .ok (.str (Txt.mul (PySem.Str.ofString "9") 30 ++ PySem.Str.ofString "/" ++ Txt.mul (PySem.Str.ofString "9") 29)) S := fun S => strM_ok' (by decide +kernel) (by decide +kernel)
    have s3 : ∀ S, strM (.str (Txt.mul (PySem.Str.ofString "9") 30 ++ PySem.Str.ofString "/" ++ Txt.mul (PySem.Str.ofString "9") 29)) (.str (PySem.Str.ofString "8")) S = .ok (.str (Txt.mul (PySem.Str.ofString "9") 30 ++ PySem.Str.ofString "/" ++ Txt.mul (PySem.Str.ofString "9") 29 ++ PySem.Str.ofString "8")) S := fun S => strM_ok' (by decide +kernel) (by decide +kernel)
    have s4 : ∀ S, strM (.str (PySem.Str.ofString "1/1")) (.str (Txt.mul (PySem.Str.ofString "0") 30)) S = .ok (.str (PySem.Str.ofString "1/1" ++ Txt.mul (PySem.Str.ofString "0") 30)) S := fun S => strM_ok' (by decide +kernel) (by decide +kernel)
    obtain ⟨S4, p4, e, u, k, _⟩ := step_odd (m := (aCons (eO addM (eO addM (eO addM (eO mulSM (eC (.str (PySem.Str.ofString "9"))) (eC (.int 30))) (eC (.str (PySem.Str.ofString "/")))) (eO mulSM (eC (.str (PySem.Str.ofString "9"))) (eC (.int 29)))) (eC (.str (PySem.Str.ofString "8")))) (aCons (eO mulSM (eC (.str (PySem.Str.ofString "9"))) (eC (.int 31))) (aCons (eO addM (eC (.str (PySem.Str.ofString "1/1"))) (eO mulSM (eC (.str (PySem.Str.ofString "0"))) (eC (.int 30)))) aNil))))
      (S1 := S3) (ys := [.str (Txt.mul (PySem.Str.ofString "9") 30 ++ PySem.Str.ofString "/" ++ Txt.mul (PySem.Str.ofString "9") 29 ++ PySem.Str.ofString "8"), .str (Txt.mul (PySem.Str.ofString "9") 31), .str (PySem.Str.ofString "1/1" ++ Txt.mul (PySem.Str.ofString "0") 30)]) (i := i) (n := 0) k3 (by simp (decide := true) only [ev, ex9, exA, exB, exD, exI, exJ, decide_true, decide_false, Bool.not_true, Bool.not_false, not_true, not_false_iff, eq_self, List.length_map, if_true, if_false, Bool.false_eq_true, m1, m2, m3, m4, s1, s2, s3, s4]) (Up.refl _ _) (by rw [List.length_append, List.length_append, n1, n2, n3]; simp)
    exact ⟨_, S4, p4, e, u, k, by decide +kernel, rfl⟩
  obtain ⟨L4, S4, p4, e4, u4, k4, a4, n4⟩ := e4
  have e5 : ∃ (L : List V) (S5 : Sto) (p5 : Nat), cO5 [some (.int i), some (.ref p4)] S4 = .ok (.nx [some (.int i), some (.ref p5)]) S5 ∧ Up [] S4 S5 ∧ S5[p5]? = some (.lst (L1 ++ L2 ++ L3 ++ L4 ++ L)) ∧ L.all okV = true ∧ L.length = 3 := by
    obtain ⟨T1, j1, v1⟩ := rep_join (σ := [some (.int i), some (.ref p4)]) (S := S4) (y := PySem.Str.ofString " ") (a := PySem.Str.ofString "1") (k := 9) (n := 9) rfl (by decide) (by decide +kernel) (by decide +kernel)
    obtain ⟨T2, j2, v2⟩ := rep_join (σ := [some (.int i), some (.ref p4)]) (S := T1) (y := PySem.Str.ofString "; ") (a := PySem.Str.ofString "1/2") (k := 9) (n := 9) rfl (by decide) (by decide +kernel) (by decide +kernel)
    obtain ⟨T3, j3, v3⟩ := rep_join (σ := [some (.int i), some (.ref p4)]) (S := T2) (y := PySem.Str.ofString "; ") (a := PySem.Str.ofString "1 2 3 4 5 6 7 8") (k := 8) (n := 8) rfl (by decide) (by decide +kernel) (by decide +kernel)
    generalize hE1 : (eM isSt joinM (eC (.str (PySem.Str.ofString " "))) (aCons (eO mulM (eLst (aCons (eC (.str (PySem.Str.ofString "1"))) aNil)) (eC (.int 9))) aNil)) = E1 at j1
    generalize hE2 : (eM isSt joinM (eC (.str (PySem.Str.ofString "; "))) (aCons (eO mulM (eLst (aCons (eC (.str (PySem.Str.ofString "1/2"))) aNil)) (eC (.int 9))) aNil)) = E2 at j2
    generalize hE3 : (eM isSt joinM (eC (.str (PySem.Str.ofString "; "))) (aCons (eO mulM (eLst (aCons (eC (.str (PySem.Str.ofString "1 2 3 4 5 6 7 8"))) aNil)) (eC (.int 8))) aNil)) = E3 at j3
    obtain ⟨S5, p5, e, u, k, _⟩ := step_odd (m := aCons E1 (aCons E2 (aCons E3 aNil)))
      (S1 := T3) (ys := [.str (Str.join (PySem.Str.ofString " ") (List.replicate 9 (PySem.Str.ofString "1"))), .str (Str.join (PySem.Str.ofString "; ") (List.replicate 9 (PySem.Str.ofString "1/2"))), .str (Str.join (PySem.Str.ofString "; ") (List.replicate 8 (PySem.Str.ofString "1 2 3 4 5 6 7 8")))]) (i := i) (n := 0) k4 (by simp (decide := true) only [ev, ex9, exA, exB, exD, exI, exJ, decide_true, decide_false, Bool.not_true, Bool.not_false, not_true, not_false_iff, eq_self, List.length_map, if_true, if_false, Bool.false_eq_true, j1, j2, j3]) ((v1.trans v2).trans v3) (by rw [List.length_append, List.length_append, List.length_append, n1, n2, n3, n4]; simp)
    refine ⟨_, S5, p5, ?_, u, k, by decide +kernel, rfl⟩
    rw [← e, ← hE1, ← hE2, ← hE3]; rfl
  obtain ⟨L5, S5, p5, e5, u5, k5, a5, n5⟩ := e5
  have u25 := (((u2.trans u3).trans u4).trans u5)
  have hlen : (L1 ++ L2 ++ L3 ++ L4 ++ L5).length = 36 := by simp [n1, n2, n3, n4, n5]
  have hall : ∀ v ∈ L1 ++ L2 ++ L3 ++ L4 ++ L5, OkV S5 v := fun v hv => by
    simp only [List.mem_append] at hv
    rcases hv with (((hv | hv) | hv) | hv) | hv
    · exact ok_all a1 v hv
    · exact ok_all a2 v hv
    · exact (a3 v hv).up (u4.trans u5)
    · exact ok_all a4 v hv
    · exact ok_all a5 v hv
  generalize L1 ++ L2 ++ L3 ++ L4 ++ L5 = L at k5 hlen hall
  have hi : 0 ≤ i % 36 ∧ i % 36 < 36 := by omega
  have ln := lenM_at (rdLT_lst k5)
  rw [hlen] at ln
  have hg : (i % 36).toNat < L.length := by omega
  have x := ixQ_int (rdLT_lst k5) hi.1 (List.getElem?_eq_getElem hg)
  have md : modM (.int i) (.int ((36 : Nat) : Int)) S5 = .ok (.int (i % 36)) S5 := modM_pos (by decide) S5
  refine ⟨L[(i % 36).toNat], S5, ?_, u1.trans u25, hall _ (List.getElem_mem hg)⟩
  simp (decide := true) only [ev, ex9, exA, exB, exD, exI, exJ, decide_true, decide_false, Bool.not_true, Bool.not_false, not_true, not_false_iff, eq_self, List.length_map, if_true, if_false, Bool.false_eq_true, r__law_odd_eq, c_odd_cut, e1, e2, e3, e4, e5, cO6, ln, md, x]
end
theorem law_true (ns : List Int) (hl : ns.length ≤ 63) : ∃ S', r_law [.ref 0] [.frl (ns.map V.int)] = .ok (.bl true) S' := by
  have h0 : rdL (.ref 0) [.frl (ns.map V.int)] = some (ns.map V.int) := rfl
  obtain ⟨x, S1, e1, u1, hx⟩ := written63 h0
  have hx6 : Txo x 600 := ⟨hx.1, by have := hx.2; omega⟩
  obtain ⟨S2, e2, u2⟩ := asked_str (S := S1) hx6
  obtain ⟨y, S3, e3, u3, hy⟩ := spoiled63 (rdL_up (u1.trans u2) h0) hx
  obtain ⟨S4, e4, u4⟩ := asked_str (S := S3) hy
  have u14 := ((u1.trans u2).trans u3).trans u4
  obtain ⟨N, e5, hN⟩ := mixed_ok (rdL_up u14 h0) (x := 17) (by unfold Drw; decide)
  obtain ⟨v, S6, e6, u6, hv⟩ := odd63 (S := S4) (N / 64)
  obtain ⟨S7, e7, u7⟩ := asked_any hv
  obtain ⟨S8, e8, u8⟩ := asked_str (S := S7) hx6
  simp (decide := true) only [ev, ex9, exA, exB, exD, exI, exJ, decide_true, decide_false, Bool.not_true, Bool.not_false, not_true, not_false_iff, eq_self, List.length_map, if_true, if_false, Bool.false_eq_true, r_law_eq, c_law, e1, e2, e3, e4, e5, e6, e7, e8]
  exact ⟨S8, rfl⟩

end Lw
namespace Lw
open PySem PySem.Spec L2 Fx
open PyProof.Rows hiding St

def topS (i : Nat) : Stmt := PySem.Challenge.pw_evenmix_k63_texts_refused.main.body.getD i (.Pass ⟨0, 0, 0, 0⟩)
structure Tf (K : PySem.W.Frag) (mg : Str → Option Value) : Prop where
  o_NoText : OwnC K mg "NoText"
  h_NoText : HdX K mg ["NoText"] "NoText"
  h_MixError : HdX K mg ["NoText"] "MixError"
  i_NoNumber : IsC K mg ["NoText"] "NoNumber"
  i_NoTable : IsC K mg ["NoText"] "NoTable"
  i_NotAlike : IsC K mg ["NoText"] "NotAlike"
  i_NoStep : IsC K mg ["NoText"] "NoStep"
  i_NoMix : IsC K mg ["NoText"] "NoMix"
  i_NotEven : IsC K mg ["NoText"] "NotEven"
  i_NoSwap : IsC K mg ["NoText"] "NoSwap"
  i_NoBounds : IsC K mg ["NoText"] "NoBounds"
  i_NoPlace : IsC K mg ["NoText"] "NoPlace"
  i_NoSums : IsC K mg ["NoText"] "NoSums"
  i_NoBottom : IsC K mg ["NoText"] "NoBottom"
  i_TooGreat : IsC K mg ["NoText"] "TooGreat"
  e_R : ExCs K mg ["NoText"]
  v_R : KvV K mg ["NoText"]
  c_FIGURES : ∃ t, mg "FIGURES" = some (.str (PySem.Str.ofString "0123456789") t)
  c_MOST_FIGURES : ∃ t, mg "MOST_FIGURES" = some (.int 30 t)
  c_MOST_WIDE : ∃ t, mg "MOST_WIDE" = some (.int 8 t)
  b_ValueError : mg "ValueError" = none
  b_abs : mg "abs" = none
  b_int : mg "int" = none
  b_isinstance : mg "isinstance" = none
  b_len : mg "len" = none
  b_range : mg "range" = none
  b_str : mg "str" = none
  b_tuple : mg "tuple" = none
abbrev s_shared_with : Stmt := topS 16
theorem sc_shared_with : FnScope ["bottom", "number", "left"] ["bottom", "number"] (defScope s_shared_with) := ⟨rfl, rfl, rfl, by decide +kernel, rfl, by decide +kernel, by decide +kernel⟩
theorem ok_shared_with {P : Program} {w : World} {K : PySem.W.Frag} {mg : Str → Option Value} {base : Heap} {f : Addr} {fd : FuncData} (T : Tf K mg) (F : Fun K "shared_with" "shared_with" s_shared_with f fd) (gF : mg "shared_with" = some (.ref f)) (B : Binds K fd ["bottom", "number"] [])  :
    Df P w K mg base "shared_with" 1 2 r_shared_with :=
  ⟨f, fd, _, fn_ok (k := 0) F sc_shared_with 2 rfl 3 rfl (fun cdv A outer s H E hr tk hp =>
    have nd := (sc_shared_with).nd
    (fss_cons (fs_set (i := 2) nd rfl (Or.inl rfl) (fe_callB call_abs absM_ok rfl T.b_abs (by decide +kernel) (fa_cons (fe_v 1) fa_nil)))
    (fss_cons (fs_while hp [] (ft_cmp op_gt gtM_ok (fe_op op_mod modM_ok (fe_v 2) (fe_v 0)) (fe_c pe_int))
    (fss_one (fs_par (i := 0) (j := 2) rfl nd rfl rfl (by decide) rfl rfl (fa_cons (fe_op op_mod modM_ok (fe_v 2) (fe_v 0)) (fa_cons (fe_v 0) fa_nil)) (by rfl))))
    (fss_one (fs_ret (fe_v 0)))))), gF, F.kp, B⟩
abbrev s_read_figures : Stmt := topS 21
theorem sc_read_figures : FnScope ["word", "sign"] ["word"] (defScope s_read_figures) := ⟨rfl, rfl, rfl, by decide +kernel, rfl, by decide +kernel, by decide +kernel⟩
theorem ok_read_figures {P : Program} {w : World} {K : PySem.W.Frag} {mg : Str → Option Value} {base : Heap} {f : Addr} {fd : FuncData} (T : Tf K mg) (F : Fun K "read_figures" "read_figures" s_read_figures f fd) (gF : mg "read_figures" = some (.ref f)) (B : Binds K fd ["word"] [])  :
    Df P w K mg base "read_figures" 1 1 r_read_figures :=
  ⟨f, fd, _, fn_ok (k := 0) F sc_read_figures 1 rfl 2 rfl (fun cdv A outer s H E hr tk hp =>
    have nd := (sc_read_figures).nd
    (fss_cons (fs_if (FW.ft (fw_or (ft_cmp (op_eqD hr.units) eqM_ok (fe_v 0) (fe_c pe_str)) (fw_or (ft_cmp op_gt gtM_ok (fe_callB call_len lenM_ok rfl T.b_len (by decide +kernel) (fa_cons (fe_v 0) fa_nil)) (fe_globI rfl T.c_MOST_FIGURES)) (fw_or1 (FW.ft (fw_and (ft_cmp op_gt gtM_ok (fe_callB call_len lenM_ok rfl T.b_len (by decide +kernel) (fa_cons (fe_v 0) fa_nil)) (fe_c pe_int)) (fw_and1 (ft_cmp (op_eqD hr.units) eqM_ok (fe_ix ix_seq ixM_ok (fe_v 0) (fe_c pe_int)) (fe_c pe_str)))))))))
    (fss_one (fs_raise' rfl tk T.o_NoText rfl))
    fss_nil)
    (fss_cons (fs_for hp rfl [1] (fi_str (fe_v 0)) (fgi_name (i := 1) nd rfl (Or.inl rfl))
    (fss_one (fs_if (ft_cmp op_notIn_str inSM_notIn (fe_v 1) (fe_globS rfl T.c_FIGURES))
    (fss_one (fs_raise' rfl tk T.o_NoText rfl))
    fss_nil)))
    (fss_one (fs_ret (fe_callTy call_int_str intSM_ok rfl T.b_int (by decide +kernel) (fa_cons (fe_v 0) fa_nil))))))), gF, F.kp, B⟩
abbrev s_read_fraction : Stmt := topS 22
theorem sc_read_fraction : FnScope ["word", "sign", "top", "slash", "bottom", "found"] ["word"] (defScope s_read_fraction) := ⟨rfl, rfl, rfl, by decide +kernel, rfl, by decide +kernel, by decide +kernel⟩
theorem ok_read_fraction {P : Program} {w : World} {K : PySem.W.Frag} {mg : Str → Option Value} {base : Heap} {f : Addr} {fd : FuncData} (T : Tf K mg) (F : Fun K "read_fraction" "read_fraction" s_read_fraction f fd) (gF : mg "read_fraction" = some (.ref f)) (B : Binds K fd ["word"] []) (D_read_figures : Df P w K mg base "read_figures" 1 1 r_read_figures) (D_shared_with : Df P w K mg base "shared_with" 1 2 r_shared_with) :
    Df P w K mg base "read_fraction" 2 1 r_read_fraction :=
  ⟨f, fd, _, fn_ok (k := 1) F sc_read_fraction 1 rfl 6 rfl (fun cdv A outer s H E hr tk hp =>
    have nd := (sc_read_fraction).nd
    (fss_cons (fs_set (i := 1) nd rfl (Or.inl rfl) (fe_c pe_int))
    (fss_cons (fs_if (ft_v (fe_bm PySem.F.plainAttrs_str PySem.F.slot_str_startswith PySem.F.type_str_startswith mt_startswith isSt_ok startsM_ok (fe_v 0) (fa_cons (fe_c pe_str) fa_nil)))
    (fss_cons (fs_set (i := 1) nd rfl (Or.inl rfl) (fe_un un_neg negM_ok (fe_c pe_int)))
    (fss_one (fs_set (i := 0) nd rfl (Or.inl rfl) (fe_sl (fe_v 0) (fo_some (fe_c pe_int)) fo_none))))
    fss_nil)
    (fss_cons (fs_asg (fe_bm PySem.F.plainAttrs_str PySem.F.slot_str_partition PySem.F.type_str_partition mt_partition isSt_ok partM_ok (fe_v 0) (fa_cons (fe_c pe_str) fa_nil)) (fg_sq rfl (fgs_cons (i := 2) nd rfl (Or.inl rfl) (fgs_cons (i := 3) nd rfl (Or.inl rfl) (fgs_cons (i := 4) nd rfl (Or.inl rfl) fgs_nil)))))
    (fss_cons (fs_if (FW.ft (fw_and (ft_cmp (op_eqD hr.units) eqM_ok (fe_v 1) (fe_un un_neg negM_ok (fe_c pe_int))) (fw_and1 (ft_cmp (op_eqD hr.units) eqM_ok (fe_v 2) (fe_c pe_str)))))
    (fss_one (fs_raise' rfl tk T.o_NoText rfl))
    fss_nil)
    (fss_cons (fs_if (ft_cmp (op_eqD hr.units) eqM_ok (fe_v 3) (fe_c pe_str))
    (fss_one (fs_ret (fe_tup (fa_cons (fe_op op_mulA mulM_ok (fe_v 1) (fe_call' D_read_figures hr (by decide) rfl tk (fa_cons (fe_v 2) fa_nil))) (fa_cons (fe_c pe_int) fa_nil)))))
    fss_nil)
    (fss_cons (fs_set (i := 5) nd rfl (Or.inl rfl) (fe_tup (fa_cons (fe_op op_mulA mulM_ok (fe_v 1) (fe_call' D_read_figures hr (by decide) rfl tk (fa_cons (fe_v 2) fa_nil))) (fa_cons (fe_call' D_read_figures hr (by decide) rfl tk (fa_cons (fe_v 4) fa_nil)) fa_nil))))
    (fss_cons (fs_if (FW.ft (fw_or (ft_cmp op_lt ltM_ok (fe_ix ix_seq ixM_ok (fe_v 5) (fe_c pe_int)) (fe_c pe_int)) (fw_or1 (ft_cmp (op_neD hr.units) neM_ok (fe_call' D_shared_with hr (by decide) rfl tk (fa_cons (fe_ix ix_seq ixM_ok (fe_v 5) (fe_c pe_int)) (fa_cons (fe_ix ix_seq ixM_ok (fe_v 5) (fe_c pe_int)) fa_nil))) (fe_c pe_int)))))
    (fss_one (fs_raise' rfl tk T.o_NoText rfl))
    fss_nil)
    (fss_one (fs_ret (fe_v 5))))))))))), gF, F.kp, B⟩
abbrev s_read_row : Stmt := topS 23
theorem sc_read_row : FnScope ["line", "found", "word"] ["line"] (defScope s_read_row) := ⟨rfl, rfl, rfl, by decide +kernel, rfl, by decide +kernel, by decide +kernel⟩
theorem ok_read_row {P : Program} {w : World} {K : PySem.W.Frag} {mg : Str → Option Value} {base : Heap} {f : Addr} {fd : FuncData} (T : Tf K mg) (F : Fun K "read_row" "read_row" s_read_row f fd) (gF : mg "read_row" = some (.ref f)) (B : Binds K fd ["line"] []) (D_read_fraction : Df P w K mg base "read_fraction" 2 1 r_read_fraction) :
    Df P w K mg base "read_row" 3 1 r_read_row :=
  ⟨f, fd, _, fn_ok (k := 2) F sc_read_row 1 rfl 3 rfl (fun cdv A outer s H E hr tk hp =>
    have nd := (sc_read_row).nd
    (fss_cons (fs_setLcR (i := 1) (own := [("word", 2)]) (is := [2]) rfl rfl tk rfl nd rfl rfl (sw_true rfl rfl rfl (by decide +kernel)) (fi_list (fe_bm PySem.F.plainAttrs_str PySem.F.slot_str_split PySem.F.type_str_split mt_split isSt_ok splitM_ok (fe_v 0) (fa_cons (fe_c pe_str) fa_nil))) (blkOk_by (by kernel_rfl)) (by decide +kernel) (fun _ _ _ _ _ => (fgi_name (i := 2) nd rfl (Or.inl rfl))) (fun _ _ _ _ _ => fts_nil) (fun _ _ _ _ _ _ _ _ pa => (fe_callP D_read_fraction hr (by decide) rfl pa (fa_cons (fe_v 2) fa_nil))))
    (fss_cons (fs_if (ft_cmp op_gt gtM_ok (fe_callB call_len lenM_ok rfl T.b_len (by decide +kernel) (fa_cons (fe_v 1) fa_nil)) (fe_globI rfl T.c_MOST_WIDE))
    (fss_one (fs_raise' rfl tk T.o_NoText rfl))
    fss_nil)
    (fss_one (fs_ret (fe_v 1)))))), gF, F.kp, B⟩
abbrev s_read_table : Stmt := topS 24
theorem sc_read_table : FnScope ["text", "rows", "line", "shared", "row", "top", "bottom"] ["text"] (defScope s_read_table) := ⟨rfl, rfl, rfl, by decide +kernel, rfl, by decide +kernel, by decide +kernel⟩
theorem ok_read_table {P : Program} {w : World} {K : PySem.W.Frag} {mg : Str → Option Value} {base : Heap} {f : Addr} {fd : FuncData} (T : Tf K mg) (F : Fun K "read_table" "read_table" s_read_table f fd) (gF : mg "read_table" = some (.ref f)) (B : Binds K fd ["text"] []) (D_read_row : Df P w K mg base "read_row" 3 1 r_read_row) (D_shared_with : Df P w K mg base "shared_with" 1 2 r_shared_with) :
    Df P w K mg base "read_table" 4 1 r_read_table :=
  ⟨f, fd, _, fn_ok (k := 3) F sc_read_table 1 rfl 7 rfl (fun cdv A outer s H E hr tk hp =>
    have nd := (sc_read_table).nd
    (fss_cons (fs_if (ft_not (ft_v (fe_callB call_isi isiM_ok rfl T.b_isinstance (by decide +kernel) (fa_cons (fe_v 0) (fa_cons (fe_c (pe_bltn (v := .ty "str") rfl T.b_str (by decide +kernel) rfl)) fa_nil)))))
    (fss_one (fs_raise' rfl tk T.o_NoText rfl))
    fss_nil)
    (fss_cons (fs_setLcR (i := 1) (own := [("line", 2)]) (is := [2]) rfl rfl tk rfl nd rfl rfl (sw_true rfl rfl rfl (by decide +kernel)) (fi_list (fe_bm PySem.F.plainAttrs_str PySem.F.slot_str_split PySem.F.type_str_split mt_split isSt_ok splitM_ok (fe_v 0) (fa_cons (fe_c pe_str) fa_nil))) (blkOk_by (by kernel_rfl)) (by decide +kernel) (fun _ _ _ _ _ => (fgi_name (i := 2) nd rfl (Or.inl rfl))) (fun _ _ _ _ _ => fts_nil) (fun _ _ _ _ _ _ _ _ pa => (fe_callP D_read_row hr (by decide) rfl pa (fa_cons (fe_v 2) fa_nil))))
    (fss_cons (fs_if (ft_cmp op_gt gtM_ok (fe_callB call_len lenM_ok rfl T.b_len (by decide +kernel) (fa_cons (fe_v 1) fa_nil)) (fe_globI rfl T.c_MOST_WIDE))
    (fss_one (fs_raise' rfl tk T.o_NoText rfl))
    fss_nil)
    (fss_cons (fs_set (i := 3) nd rfl (Or.inr rfl) (fe_c pe_int))
    (fss_cons (fs_for hp rfl [4, 5, 6] (fi_list (fe_v 1)) (fgi_name (i := 4) nd rfl (Or.inl rfl))
    (fss_cons (fs_if (ft_cmp (op_neD hr.units) neM_ok (fe_callB call_len lenM_ok rfl T.b_len (by decide +kernel) (fa_cons (fe_v 4) fa_nil)) (fe_callB call_len lenM_ok rfl T.b_len (by decide +kernel) (fa_cons (fe_ix ix_seq ixM_ok (fe_v 1) (fe_c pe_int)) fa_nil)))
    (fss_one (fs_raise' rfl tk T.o_NoText rfl))
    fss_nil)
    (fss_one (fs_for hp rfl [5, 6] (fi_list (fe_v 4)) (fgi_tup (is := [5, 6]) rfl (fgs_cons (i := 5) nd rfl (Or.inl rfl) (fgs_cons (i := 6) nd rfl (Or.inl rfl) fgs_nil)))
    (fss_one (fs_set (i := 3) nd rfl (Or.inr rfl) (fe_op op_fdivW fdivM_ok (fe_op op_mulA mulM_ok (fe_v 3) (fe_v 6)) (fe_call' D_shared_with hr (by decide) rfl tk (fa_cons (fe_v 3) (fa_cons (fe_v 6) fa_nil))))))))))
    (fss_one (fs_ret (fe_tup (fa_cons (fe_lc (own := [("row", 4)]) (is := [4]) rfl nd (fi_list (fe_v 1)) (blkOk_by (by kernel_rfl)) (fun _ _ _ _ _ => (fgi_name (i := 4) nd rfl (Or.inl rfl))) (fun _ _ _ _ _ => fts_nil) (fun _ _ _ _ _ => (fe_lc (own := [("top", 5), ("bottom", 6)]) (is := [5, 6]) (g := gTup K (List.length [5, 6]) (gCons (gName 5) (gCons (gName 6) gNil))) rfl nd (fi_list (fe_v 4)) (blkOk_by (by kernel_rfl)) (fun _ _ _ _ _ => (fgi_tup (is := [5, 6]) rfl (fgs_cons (i := 5) nd rfl (Or.inl rfl) (fgs_cons (i := 6) nd rfl (Or.inl rfl) fgs_nil)))) (fun _ _ _ _ _ => fts_nil) (fun _ _ _ _ _ => (fe_op op_mulA mulM_ok (fe_v 5) (fe_op op_fdivW fdivM_ok (fe_v 3) (fe_v 6))))))) (fa_cons (fe_v 3) fa_nil))))))))))), gF, F.kp, B⟩
abbrev s__law_mixed : Stmt := topS 26
theorem sc__law_mixed : FnScope ["_law_script", "_law_number_here", "_law_cell"] ["_law_script", "_law_number_here"] (defScope s__law_mixed) := ⟨rfl, rfl, rfl, by decide +kernel, rfl, by decide +kernel, by decide +kernel⟩
theorem ok__law_mixed {P : Program} {w : World} {K : PySem.W.Frag} {mg : Str → Option Value} {base : Heap} {f : Addr} {fd : FuncData} (T : Tf K mg) (F : Fun K "_law_mixed" "_law_mixed" s__law_mixed f fd) (gF : mg "_law_mixed" = some (.ref f)) (B : Binds K fd ["_law_script", "_law_number_here"] [])  :
    Df P w K mg base "_law_mixed" 1 2 r__law_mixed :=
  ⟨f, fd, _, fn_ok (k := 0) F sc__law_mixed 2 rfl 3 rfl (fun cdv A outer s H E hr tk hp =>
    have nd := (sc__law_mixed).nd
    (fss_cons (fs_for hp rfl [2] (fi_list (fe_v 0)) (fgi_name (i := 2) nd rfl (Or.inl rfl))
    (fss_one (fs_set (i := 1) nd rfl (Or.inl rfl) (fe_op op_mod modM_ok (fe_op op_addA addM_ok (fe_op op_mulA mulM_ok (fe_v 1) (fe_c pe_int)) (fe_v 2)) (fe_op op_addA addM_ok (fe_op op_pow powM_ok (fe_c pe_int) (fe_c pe_int)) (fe_c pe_int))))))
    (fss_one (fs_ret (fe_v 1))))), gF, F.kp, B⟩
abbrev s__law_shared : Stmt := topS 27
theorem sc__law_shared : FnScope ["_law_one", "_law_other"] ["_law_one", "_law_other"] (defScope s__law_shared) := ⟨rfl, rfl, rfl, by decide +kernel, rfl, by decide +kernel, by decide +kernel⟩
theorem ok__law_shared {P : Program} {w : World} {K : PySem.W.Frag} {mg : Str → Option Value} {base : Heap} {f : Addr} {fd : FuncData} (T : Tf K mg) (F : Fun K "_law_shared" "_law_shared" s__law_shared f fd) (gF : mg "_law_shared" = some (.ref f)) (B : Binds K fd ["_law_one", "_law_other"] [])  :
    Df P w K mg base "_law_shared" 1 2 r__law_shared :=
  ⟨f, fd, _, fn_ok (k := 0) F sc__law_shared 2 rfl 2 rfl (fun cdv A outer s H E hr tk hp =>
    have nd := (sc__law_shared).nd
    (fss_cons (fs_while hp [] (ft_cmp (op_neD hr.units) neM_ok (fe_v 1) (fe_c pe_int))
    (fss_one (fs_par (i := 0) (j := 1) rfl nd rfl rfl (by decide) rfl rfl (fa_cons (fe_v 1) (fa_cons (fe_op op_mod modM_ok (fe_v 0) (fe_v 1)) fa_nil)) (by rfl))))
    (fss_one (fs_ret (fe_callB call_abs absM_ok rfl T.b_abs (by decide +kernel) (fa_cons (fe_v 0) fa_nil)))))), gF, F.kp, B⟩
abbrev s__law_written : Stmt := topS 28
theorem sc__law_written : FnScope ["_law_script", "_law_number_here", "_law_wide", "_law_lines", "_law_row", "_law_words", "_law_column", "_law_top", "_law_bottom"] ["_law_script"] (defScope s__law_written) := ⟨rfl, rfl, rfl, by decide +kernel, rfl, by decide +kernel, by decide +kernel⟩
theorem ok__law_written {P : Program} {w : World} {K : PySem.W.Frag} {mg : Str → Option Value} {base : Heap} {f : Addr} {fd : FuncData} (T : Tf K mg) (F : Fun K "_law_written" "_law_written" s__law_written f fd) (gF : mg "_law_written" = some (.ref f)) (B : Binds K fd ["_law_script"] []) (D__law_mixed : Df P w K mg base "_law_mixed" 1 2 r__law_mixed) (D__law_shared : Df P w K mg base "_law_shared" 1 2 r__law_shared) :
    Df P w K mg base "_law_written" 2 1 r__law_written :=
  ⟨f, fd, _, fn_ok (k := 1) F sc__law_written 1 rfl 9 rfl (fun cdv A outer s H E hr tk hp =>
    have nd := (sc__law_written).nd
    (fss_cons (fs_set (i := 1) nd rfl (Or.inl rfl) (fe_call' D__law_mixed hr (by decide) rfl tk (fa_cons (fe_v 0) (fa_cons (fe_c pe_int) fa_nil))))
    (fss_cons (fs_set (i := 2) nd rfl (Or.inl rfl) (fe_op op_addA addM_ok (fe_c pe_int) (fe_op op_mod modM_ok (fe_op op_fdivW fdivM_ok (fe_v 1) (fe_c pe_int)) (fe_c pe_int))))
    (fss_cons (fs_set (i := 3) nd rfl (Or.inl rfl) (fe_lst fa_nil))
    (fss_cons (fs_for hp rfl [4, 5, 6, 7, 8] (fi_range1 rfl T.b_range (fa_cons (fe_op op_addA addM_ok (fe_c pe_int) (fe_op op_mod modM_ok (fe_v 1) (fe_c pe_int))) fa_nil)) (fgi_name (i := 4) nd rfl (Or.inl rfl))
    (fss_cons (fs_set (i := 5) nd rfl (Or.inl rfl) (fe_lst fa_nil))
    (fss_cons (fs_for hp rfl [6, 7, 8] (fi_range1 rfl T.b_range (fa_cons (fe_v 2) fa_nil)) (fgi_name (i := 6) nd rfl (Or.inl rfl))
    (fss_cons (fs_set (i := 1) nd rfl (Or.inl rfl) (fe_op op_mod modM_ok (fe_op op_addA addM_ok (fe_op op_mulA mulM_ok (fe_v 1) (fe_c pe_int)) (fe_c pe_int)) (fe_op op_addA addM_ok (fe_op op_pow powM_ok (fe_c pe_int) (fe_c pe_int)) (fe_c pe_int))))
    (fss_cons (fs_set (i := 7) nd rfl (Or.inl rfl) (fe_op op_sub subM_ok (fe_op op_mod modM_ok (fe_op op_fdivW fdivM_ok (fe_v 1) (fe_c pe_int)) (fe_c pe_int)) (fe_c pe_int)))
    (fss_cons (fs_set (i := 8) nd rfl (Or.inl rfl) (fe_ix ix_seq ixM_ok (fe_lst (fa_cons (fe_c pe_int) (fa_cons (fe_c pe_int) (fa_cons (fe_c pe_int) (fa_cons (fe_c pe_int) fa_nil))))) (fe_op op_mod modM_ok (fe_op op_fdivW fdivM_ok (fe_v 1) (fe_c pe_int)) (fe_c pe_int))))
    (fss_cons (fs_if (ft_cmp (op_neD hr.units) neM_ok (fe_call' D__law_shared hr (by decide) rfl tk (fa_cons (fe_v 7) (fa_cons (fe_v 8) fa_nil))) (fe_c pe_int))
    (fss_one (fs_set (i := 8) nd rfl (Or.inl rfl) (fe_c pe_int)))
    fss_nil)
    (fss_one (fs_expr (fe_bm PySem.F.plainAttrs_list PySem.F.slot_list_append PySem.F.type_list_append mt_append isLs_ok appM_ok (fe_v 5) (fa_cons (fe_op op_addA addM_ok (fe_callTy call_str_int textM_ok rfl T.b_str (by decide +kernel) (fa_cons (fe_v 7) fa_nil)) (fe_ix ix_seq ixM_ok (fe_lst (fa_cons (fe_c pe_str) (fa_cons (fe_op op_addA addM_ok (fe_c pe_str) (fe_callTy call_str_int textM_ok rfl T.b_str (by decide +kernel) (fa_cons (fe_v 8) fa_nil))) fa_nil))) (fe_callTy call_int1 intM_ok rfl T.b_int (by decide +kernel) (fa_cons (fe_cmp op_gt gtM_ok (fe_v 8) (fe_c pe_int)) fa_nil)))) fa_nil)))))))))
    (fss_one (fs_expr (fe_bm PySem.F.plainAttrs_list PySem.F.slot_list_append PySem.F.type_list_append mt_append isLs_ok appM_ok (fe_v 3) (fa_cons (fe_bm PySem.F.plainAttrs_str PySem.F.slot_str_join PySem.F.type_str_join mt_join isSt_ok joinM_ok (fe_c pe_str) (fa_cons (fe_v 5) fa_nil)) fa_nil)))))))
    (fss_one (fs_ret (fe_bm PySem.F.plainAttrs_str PySem.F.slot_str_join PySem.F.type_str_join mt_join isSt_ok joinM_ok (fe_c pe_str) (fa_cons (fe_v 3) fa_nil))))))))), gF, F.kp, B⟩
abbrev s__law_spoiled : Stmt := topS 29
theorem sc__law_spoiled : FnScope ["_law_text", "_law_script", "_law_cell", "_law_number_here", "_law_sign", "_law_at"] ["_law_text", "_law_script"] (defScope s__law_spoiled) := ⟨rfl, rfl, rfl, by decide +kernel, rfl, by decide +kernel, by decide +kernel⟩
theorem ok__law_spoiled {P : Program} {w : World} {K : PySem.W.Frag} {mg : Str → Option Value} {base : Heap} {f : Addr} {fd : FuncData} (T : Tf K mg) (F : Fun K "_law_spoiled" "_law_spoiled" s__law_spoiled f fd) (gF : mg "_law_spoiled" = some (.ref f)) (B : Binds K fd ["_law_text", "_law_script"] [])  :
    Df P w K mg base "_law_spoiled" 1 2 r__law_spoiled :=
  ⟨f, fd, _, fn_ok (k := 0) F sc__law_spoiled 2 rfl 6 rfl (fun cdv A outer s H E hr tk hp =>
    have nd := (sc__law_spoiled).nd
    (fss_cons (fs_for hp rfl [2, 3, 4, 5] (fi_list (fe_sl (fe_v 1) fo_none (fo_some (fe_c pe_int)))) (fgi_name (i := 2) nd rfl (Or.inl rfl))
    (fss_cons (fs_set (i := 3) nd rfl (Or.inl rfl) (fe_op op_mod modM_ok (fe_op op_mulA mulM_ok (fe_op op_mod modM_ok (fe_v 2) (fe_c pe_int)) (fe_c pe_int)) (fe_c pe_int)))
    (fss_cons (fs_set (i := 4) nd rfl (Or.inl rfl) (fe_ix ix_seq ixM_ok (fe_c pe_str) (fe_op op_mod modM_ok (fe_op op_fdivW fdivM_ok (fe_v 3) (fe_c pe_int)) (fe_c pe_int))))
    (fss_cons (fs_set (i := 5) nd rfl (Or.inl rfl) (fe_op op_mod modM_ok (fe_op op_fdivW fdivM_ok (fe_v 3) (fe_c pe_int)) (fe_op op_addA addM_ok (fe_callB call_len lenM_ok rfl T.b_len (by decide +kernel) (fa_cons (fe_v 0) fa_nil)) (fe_c pe_int))))
    (fss_one (fs_if (ft_cmp (op_eqD hr.units) eqM_ok (fe_op op_mod modM_ok (fe_v 3) (fe_c pe_int)) (fe_c pe_int))
    (fss_one (fs_set (i := 0) nd rfl (Or.inl rfl) (fe_op op_addA addM_ok (fe_op op_addA addM_ok (fe_sl (fe_v 0) fo_none (fo_some (fe_v 5))) (fe_v 4)) (fe_sl (fe_v 0) (fo_some (fe_v 5)) fo_none))))
    (fss_one (fs_if (ft_cmp (op_eqD hr.units) eqM_ok (fe_op op_mod modM_ok (fe_v 3) (fe_c pe_int)) (fe_c pe_int))
    (fss_one (fs_set (i := 0) nd rfl (Or.inl rfl) (fe_op op_addA addM_ok (fe_sl (fe_v 0) fo_none (fo_some (fe_v 5))) (fe_sl (fe_v 0) (fo_some (fe_op op_addA addM_ok (fe_v 5) (fe_c pe_int))) fo_none))))
    (fss_one (fs_if (ft_cmp (op_eqD hr.units) eqM_ok (fe_op op_mod modM_ok (fe_v 3) (fe_c pe_int)) (fe_c pe_int))
    (fss_one (fs_set (i := 0) nd rfl (Or.inl rfl) (fe_op op_addA addM_ok (fe_op op_addA addM_ok (fe_sl (fe_v 0) fo_none (fo_some (fe_v 5))) (fe_v 4)) (fe_sl (fe_v 0) (fo_some (fe_op op_addA addM_ok (fe_v 5) (fe_c pe_int))) fo_none))))
    fss_nil))))))))))
    (fss_one (fs_ret (fe_v 0))))), gF, F.kp, B⟩
abbrev s__law_odd : Stmt := topS 30
theorem sc__law_odd : FnScope ["_law_number_here", "_law_some"] ["_law_number_here"] (defScope s__law_odd) := ⟨rfl, rfl, rfl, by decide +kernel, rfl, by decide +kernel, by decide +kernel⟩
theorem ok__law_odd {P : Program} {w : World} {K : PySem.W.Frag} {mg : Str → Option Value} {base : Heap} {f : Addr} {fd : FuncData} (T : Tf K mg) (F : Fun K "_law_odd" "_law_odd" s__law_odd f fd) (gF : mg "_law_odd" = some (.ref f)) (B : Binds K fd ["_law_number_here"] [])  :
    Df P w K mg base "_law_odd" 1 1 r__law_odd :=
  ⟨f, fd, _, fn_ok (k := 0) F sc__law_odd 1 rfl 2 rfl (fun cdv A outer s H E hr tk hp =>
    have nd := (sc__law_odd).nd
    (fss_cons (fs_set (i := 1) nd rfl (Or.inl rfl) (fe_lst (fa_cons (fe_c pe_str) (fa_cons (fe_c pe_str) (fa_cons (fe_c pe_str) (fa_cons (fe_c pe_str) (fa_cons (fe_c pe_str) (fa_cons (fe_c pe_str) (fa_cons (fe_c pe_str) (fa_cons (fe_c pe_str) (fa_cons (fe_c pe_str) (fa_cons (fe_c pe_str) (fa_cons (fe_c pe_str) (fa_cons (fe_c pe_str) (fa_cons (fe_c pe_str) (fa_cons (fe_c pe_str) (fa_cons (fe_c pe_str) (fa_cons (fe_c pe_str) fa_nil))))))))))))))))))
    (fss_cons (fs_set (i := 1) nd rfl (Or.inl rfl) (fe_op op_addA addM_ok (fe_v 1) (fe_lst (fa_cons (fe_c pe_str) (fa_cons (fe_c pe_str) (fa_cons (fe_c pe_str) (fa_cons (fe_c pe_str) fa_nil)))))))
    (fss_cons (fs_set (i := 1) nd rfl (Or.inl rfl) (fe_op op_addA addM_ok (fe_v 1) (fe_lst (fa_cons (fe_c pe_str) (fa_cons (fe_c pe_str) (fa_cons (fe_c pe_str) (fa_cons (fe_c pe_str) (fa_cons (fe_c pe_str) (fa_cons (fe_c pe_str) (fa_cons (fe_c pe_non) (fa_cons (fe_c pe_int) (fa_cons (fe_lst (fa_cons (fe_c pe_str) fa_nil)) (fa_cons (fe_c pe_str) fa_nil)))))))))))))
    (fss_cons (fs_set (i := 1) nd rfl (Or.inl rfl) (fe_op op_addA addM_ok (fe_v 1) (fe_lst (fa_cons (fe_op op_addA addM_ok (fe_op op_addA addM_ok (fe_op op_addA addM_ok (fe_op op_repS mulSM_ok (fe_c pe_str) (fe_c pe_int)) (fe_c pe_str)) (fe_op op_repS mulSM_ok (fe_c pe_str) (fe_c pe_int))) (fe_c pe_str)) (fa_cons (fe_op op_repS mulSM_ok (fe_c pe_str) (fe_c pe_int)) (fa_cons (fe_op op_addA addM_ok (fe_c pe_str) (fe_op op_repS mulSM_ok (fe_c pe_str) (fe_c pe_int))) fa_nil))))))
    (fss_cons (fs_set (i := 1) nd rfl (Or.inl rfl) (fe_op op_addA addM_ok (fe_v 1) (fe_lst (fa_cons (fe_bm PySem.F.plainAttrs_str PySem.F.slot_str_join PySem.F.type_str_join mt_join isSt_ok joinM_ok (fe_c pe_str) (fa_cons (fe_op op_mulA mulM_ok (fe_lst (fa_cons (fe_c pe_str) fa_nil)) (fe_c pe_int)) fa_nil)) (fa_cons (fe_bm PySem.F.plainAttrs_str PySem.F.slot_str_join PySem.F.type_str_join mt_join isSt_ok joinM_ok (fe_c pe_str) (fa_cons (fe_op op_mulA mulM_ok (fe_lst (fa_cons (fe_c pe_str) fa_nil)) (fe_c pe_int)) fa_nil)) (fa_cons (fe_bm PySem.F.plainAttrs_str PySem.F.slot_str_join PySem.F.type_str_join mt_join isSt_ok joinM_ok (fe_c pe_str) (fa_cons (fe_op op_mulA mulM_ok (fe_lst (fa_cons (fe_c pe_str) fa_nil)) (fe_c pe_int)) fa_nil)) fa_nil))))))
    (fss_one (fs_ret (fe_ix ix_seq ixM_ok (fe_v 1) (fe_op op_mod modM_ok (fe_v 0) (fe_callB call_len lenM_ok rfl T.b_len (by decide +kernel) (fa_cons (fe_v 1) fa_nil)))))))))))), gF, F.kp, B⟩
abbrev s__law_number : Stmt := topS 31
theorem sc__law_number : FnScope ["_law_word", "_law_sign"] ["_law_word"] (defScope s__law_number) := ⟨rfl, rfl, rfl, by decide +kernel, rfl, by decide +kernel, by decide +kernel⟩
theorem ok__law_number {P : Program} {w : World} {K : PySem.W.Frag} {mg : Str → Option Value} {base : Heap} {f : Addr} {fd : FuncData} (T : Tf K mg) (F : Fun K "_law_number" "_law_number" s__law_number f fd) (gF : mg "_law_number" = some (.ref f)) (B : Binds K fd ["_law_word"] [])  :
    Df P w K mg base "_law_number" 1 1 r__law_number :=
  ⟨f, fd, _, fn_ok (k := 0) F sc__law_number 1 rfl 2 rfl (fun cdv A outer s H E hr tk hp =>
    have nd := (sc__law_number).nd
    (fss_cons (fs_if (FW.ft (fw_or (ft_cmp (op_eqD hr.units) eqM_ok (fe_v 0) (fe_c pe_str)) (fw_or (ft_cmp op_gt gtM_ok (fe_callB call_len lenM_ok rfl T.b_len (by decide +kernel) (fa_cons (fe_v 0) fa_nil)) (fe_c pe_int)) (fw_or1 (FW.ft (fw_and (ft_cmp op_gt gtM_ok (fe_callB call_len lenM_ok rfl T.b_len (by decide +kernel) (fa_cons (fe_v 0) fa_nil)) (fe_c pe_int)) (fw_and1 (ft_cmp (op_eqD hr.units) eqM_ok (fe_ix ix_seq ixM_ok (fe_v 0) (fe_c pe_int)) (fe_c pe_str)))))))))
    (fss_one (fs_ret (fe_c pe_non)))
    fss_nil)
    (fss_cons (fs_if (ft_cmp (op_neD hr.units) neM_ok (fe_callB call_len lenM_ok rfl T.b_len (by decide +kernel) (fa_cons (fe_lc (own := [("_law_sign", 1)]) (is := [1]) rfl nd (fi_str (fe_v 0)) (blkOk_by (by kernel_rfl)) (fun _ _ _ _ _ => (fgi_name (i := 1) nd rfl (Or.inl rfl))) (fun _ _ _ _ _ => (fts_one (ft_cmp op_in_str inSM_in (fe_v 1) (fe_c pe_str)))) (fun _ _ _ _ _ => (fe_v 1))) fa_nil)) (fe_callB call_len lenM_ok rfl T.b_len (by decide +kernel) (fa_cons (fe_v 0) fa_nil)))
    (fss_one (fs_ret (fe_c pe_non)))
    fss_nil)
    (fss_one (fs_ret (fe_callTy call_int_str intSM_ok rfl T.b_int (by decide +kernel) (fa_cons (fe_v 0) fa_nil))))))), gF, F.kp, B⟩
abbrev s__law_fraction : Stmt := topS 32
theorem sc__law_fraction : FnScope ["_law_word", "_law_top", "_law_slash", "_law_bottom", "_law_found"] ["_law_word"] (defScope s__law_fraction) := ⟨rfl, rfl, rfl, by decide +kernel, rfl, by decide +kernel, by decide +kernel⟩
theorem ok__law_fraction {P : Program} {w : World} {K : PySem.W.Frag} {mg : Str → Option Value} {base : Heap} {f : Addr} {fd : FuncData} (T : Tf K mg) (F : Fun K "_law_fraction" "_law_fraction" s__law_fraction f fd) (gF : mg "_law_fraction" = some (.ref f)) (B : Binds K fd ["_law_word"] []) (D__law_number : Df P w K mg base "_law_number" 1 1 r__law_number) (D__law_shared : Df P w K mg base "_law_shared" 1 2 r__law_shared) :
    Df P w K mg base "_law_fraction" 2 1 r__law_fraction :=
  ⟨f, fd, _, fn_ok (k := 1) F sc__law_fraction 1 rfl 5 rfl (fun cdv A outer s H E hr tk hp =>
    have nd := (sc__law_fraction).nd
    (fss_cons (fs_if (ft_cmp (op_eqD hr.units) eqM_ok (fe_sl (fe_v 0) fo_none (fo_some (fe_c pe_int))) (fe_c pe_str))
    (fss_one (fs_ret (fe_c pe_non)))
    fss_nil)
    (fss_cons (fs_asg (fe_bm PySem.F.plainAttrs_str PySem.F.slot_str_partition PySem.F.type_str_partition mt_partition isSt_ok partM_ok (fe_sl (fe_v 0) (fo_some (fe_callTy call_int1 intM_ok rfl T.b_int (by decide +kernel) (fa_cons (fe_cmp (op_eqD hr.units) eqM_ok (fe_sl (fe_v 0) fo_none (fo_some (fe_c pe_int))) (fe_c pe_str)) fa_nil))) fo_none) (fa_cons (fe_c pe_str) fa_nil)) (fg_sq rfl (fgs_cons (i := 1) nd rfl (Or.inl rfl) (fgs_cons (i := 2) nd rfl (Or.inl rfl) (fgs_cons (i := 3) nd rfl (Or.inl rfl) fgs_nil)))))
    (fss_cons (fs_if (ft_cmp (op_eqD hr.units) eqM_ok (fe_v 2) (fe_c pe_str))
    (fss_one (fs_set (i := 3) nd rfl (Or.inl rfl) (fe_c pe_str)))
    fss_nil)
    (fss_cons (fs_set (i := 4) nd rfl (Or.inl rfl) (fe_lst (fa_cons (fe_call' D__law_number hr (by decide) rfl tk (fa_cons (fe_v 1) fa_nil)) (fa_cons (fe_call' D__law_number hr (by decide) rfl tk (fa_cons (fe_v 3) fa_nil)) fa_nil))))
    (fss_cons (fs_if (FW.ft (fw_or (ft_cmp op_in_seq (inM_ok (neg := false)) (fe_c pe_non) (fe_v 4)) (fw_or1 (FW.ft (fw_and (ft_cmp (op_neD hr.units) neM_ok (fe_v 2) (fe_c pe_str)) (fw_and1 (FW.ft (fw_or (ft_cmp op_lt ltM_ok (fe_ix ix_seq ixM_ok (fe_v 4) (fe_c pe_int)) (fe_c pe_int)) (fw_or1 (ft_cmp (op_neD hr.units) neM_ok (fe_call' D__law_shared hr (by decide) rfl tk (fa_cons (fe_ix ix_seq ixM_ok (fe_v 4) (fe_c pe_int)) (fa_cons (fe_ix ix_seq ixM_ok (fe_v 4) (fe_c pe_int)) fa_nil))) (fe_c pe_int)))))))))))
    (fss_one (fs_ret (fe_c pe_non)))
    fss_nil)
    (fss_one (fs_ret (fe_tup (fa_cons (fe_op op_mulA mulM_ok (fe_ix ix_seq ixM_ok (fe_v 4) (fe_c pe_int)) (fe_op op_sub subM_ok (fe_c pe_int) (fe_op op_mulA mulM_ok (fe_c pe_int) (fe_callTy call_int1 intM_ok rfl T.b_int (by decide +kernel) (fa_cons (fe_cmp (op_eqD hr.units) eqM_ok (fe_sl (fe_v 0) fo_none (fo_some (fe_c pe_int))) (fe_c pe_str)) fa_nil))))) (fa_cons (fe_ix ix_seq ixM_ok (fe_v 4) (fe_c pe_int)) fa_nil))))))))))), gF, F.kp, B⟩
abbrev s__law_due : Stmt := topS 33
theorem sc__law_due : FnScope ["_law_text", "_law_cells", "_law_word", "_law_line", "_law_bottom", "_law_top", "_law_own"] ["_law_text"] (defScope s__law_due) := ⟨rfl, rfl, rfl, by decide +kernel, rfl, by decide +kernel, by decide +kernel⟩
theorem ok__law_due {P : Program} {w : World} {K : PySem.W.Frag} {mg : Str → Option Value} {base : Heap} {f : Addr} {fd : FuncData} (T : Tf K mg) (F : Fun K "_law_due" "_law_due" s__law_due f fd) (gF : mg "_law_due" = some (.ref f)) (B : Binds K fd ["_law_text"] []) (D__law_fraction : Df P w K mg base "_law_fraction" 2 1 r__law_fraction) (D__law_shared : Df P w K mg base "_law_shared" 1 2 r__law_shared) :
    Df P w K mg base "_law_due" 3 1 r__law_due :=
  ⟨f, fd, _, fn_ok (k := 2) F sc__law_due 1 rfl 7 rfl (fun cdv A outer s H E hr tk hp =>
    have nd := (sc__law_due).nd
    (fss_cons (fs_if (ft_not (ft_v (fe_callB call_isi isiM_ok rfl T.b_isinstance (by decide +kernel) (fa_cons (fe_v 0) (fa_cons (fe_c (pe_bltn (v := .ty "str") rfl T.b_str (by decide +kernel) rfl)) fa_nil)))))
    (fss_one (fs_ret (fe_c pe_non)))
    fss_nil)
    (fss_cons (fs_setLc (i := 1) (own := [("_law_line", 3)]) (is := [3]) rfl nd rfl rfl (sw_true rfl rfl rfl (by decide +kernel)) (fi_list (fe_bm PySem.F.plainAttrs_str PySem.F.slot_str_split PySem.F.type_str_split mt_split isSt_ok splitM_ok (fe_v 0) (fa_cons (fe_c pe_str) fa_nil))) (blkOk_by (by kernel_rfl)) (fun _ _ _ _ _ => (fgi_name (i := 3) nd rfl (Or.inl rfl))) (fun _ _ _ _ _ => fts_nil) (fun _ _ _ _ _ => (fe_lc (own := [("_law_word", 2)]) (is := [2]) rfl nd (fi_list (fe_bm PySem.F.plainAttrs_str PySem.F.slot_str_split PySem.F.type_str_split mt_split isSt_ok splitM_ok (fe_v 3) (fa_cons (fe_c pe_str) fa_nil))) (blkOk_by (by kernel_rfl)) (fun _ _ _ _ _ => (fgi_name (i := 2) nd rfl (Or.inl rfl))) (fun _ _ _ _ _ => fts_nil) (fun _ _ _ _ _ => (fe_call' D__law_fraction hr (by decide) rfl takes0 (fa_cons (fe_v 2) fa_nil))))))
    (fss_cons (fs_set (i := 4) nd rfl (Or.inr rfl) (fe_c pe_int))
    (fss_cons (fs_for hp rfl [3, 5, 6] (fi_list (fe_v 1)) (fgi_name (i := 3) nd rfl (Or.inl rfl))
    (fss_cons (fs_if (FW.ft (fw_or (ft_inD (Fx.Room.u65 hr) (fe_c pe_non) (fe_v 3)) (fw_or (ft_cmp (op_neD hr.units) neM_ok (fe_callB call_len lenM_ok rfl T.b_len (by decide +kernel) (fa_cons (fe_v 3) fa_nil)) (fe_callB call_len lenM_ok rfl T.b_len (by decide +kernel) (fa_cons (fe_ix ix_seq ixM_ok (fe_v 1) (fe_c pe_int)) fa_nil))) (fw_or (ft_cmp op_gt gtM_ok (fe_callB call_len lenM_ok rfl T.b_len (by decide +kernel) (fa_cons (fe_v 3) fa_nil)) (fe_c pe_int)) (fw_or1 (ft_cmp op_gt gtM_ok (fe_callB call_len lenM_ok rfl T.b_len (by decide +kernel) (fa_cons (fe_v 1) fa_nil)) (fe_c pe_int)))))))
    (fss_one (fs_ret (fe_c pe_non)))
    fss_nil)
    (fss_one (fs_for hp rfl [5, 6] (fi_list (fe_v 3)) (fgi_tup (is := [5, 6]) rfl (fgs_cons (i := 5) nd rfl (Or.inl rfl) (fgs_cons (i := 6) nd rfl (Or.inl rfl) fgs_nil)))
    (fss_one (fs_set (i := 4) nd rfl (Or.inr rfl) (fe_op op_mulA mulM_ok (fe_op op_fdivW fdivM_ok (fe_v 4) (fe_call' D__law_shared hr (by decide) rfl tk (fa_cons (fe_v 4) (fa_cons (fe_v 6) fa_nil)))) (fe_v 6))))))))
    (fss_one (fs_ret (fe_tup (fa_cons (fe_lc (own := [("_law_line", 3)]) (is := [3]) rfl nd (fi_list (fe_v 1)) (blkOk_by (by kernel_rfl)) (fun _ _ _ _ _ => (fgi_name (i := 3) nd rfl (Or.inl rfl))) (fun _ _ _ _ _ => fts_nil) (fun _ _ _ _ _ => (fe_lc (own := [("_law_top", 5), ("_law_own", 6)]) (is := [5, 6]) (g := gTup K (List.length [5, 6]) (gCons (gName 5) (gCons (gName 6) gNil))) rfl nd (fi_list (fe_v 3)) (blkOk_by (by kernel_rfl)) (fun _ _ _ _ _ => (fgi_tup (is := [5, 6]) rfl (fgs_cons (i := 5) nd rfl (Or.inl rfl) (fgs_cons (i := 6) nd rfl (Or.inl rfl) fgs_nil)))) (fun _ _ _ _ _ => fts_nil) (fun _ _ _ _ _ => (fe_op op_mulA mulM_ok (fe_v 5) (fe_op op_fdivW fdivM_ok (fe_v 4) (fe_v 6))))))) (fa_cons (fe_v 4) fa_nil)))))))))), gF, F.kp, B⟩
abbrev s__law_alone : Stmt := topS 34
theorem sc__law_alone : FnScope ["_law_error"] ["_law_error"] (defScope s__law_alone) := ⟨rfl, rfl, rfl, by decide +kernel, rfl, by decide +kernel, by decide +kernel⟩
theorem ok__law_alone {P : Program} {w : World} {K : PySem.W.Frag} {mg : Str → Option Value} {base : Heap} {f : Addr} {fd : FuncData} (T : Tf K mg) (F : Fun K "_law_alone" "_law_alone" s__law_alone f fd) (gF : mg "_law_alone" = some (.ref f)) (B : Binds K fd ["_law_error"] []) :
    DfX P w K mg base "_law_alone" 1 "_law_error" ["NoText"] (fun c => if fAny ["NoNumber", "NoTable", "NotAlike", "NoStep", "NoMix", "NotEven"] c = true then false else !fAny ["NoSwap", "NoBounds", "NoPlace", "NoSums", "NoBottom", "TooGreat"] c) :=
  ⟨f, fd, fnx_ok (k := 0) (g := fAny ["NoNumber", "NoTable", "NotAlike", "NoStep", "NoMix", "NotEven"]) (g2 := fun c => !fAny ["NoSwap", "NoBounds", "NoPlace", "NoSums", "NoBottom", "TooGreat"] c) F sc__law_alone rfl (fun cdv A outer s H p => ⟨(fxb_isT List.mem_cons_self T.e_R rfl (Or.inl rfl) rfl T.b_isinstance (by decide +kernel) (.cons T.i_NoNumber rfl (.cons T.i_NoTable rfl (.cons T.i_NotAlike rfl (.cons T.i_NoStep rfl (.cons T.i_NoMix rfl (.cons T.i_NotEven rfl .nil)))))) (by decide)), (fxb_not (fxb_isT List.mem_cons_self T.e_R rfl (Or.inl rfl) rfl T.b_isinstance (by decide +kernel) (.cons T.i_NoSwap rfl (.cons T.i_NoBounds rfl (.cons T.i_NoPlace rfl (.cons T.i_NoSums rfl (.cons T.i_NoBottom rfl (.cons T.i_TooGreat rfl .nil)))))) (by decide))), fun _ => rfl⟩), gF, F.kp, B⟩
abbrev s__law_asked : Stmt := topS 35
theorem sc__law_asked : FnScope ["_law_text", "_law_due_here", "_law_found", "_law_seen", "_law_error"] ["_law_text"] (defScope s__law_asked) := ⟨rfl, rfl, rfl, by decide +kernel, rfl, by decide +kernel, by decide +kernel⟩
theorem ok__law_asked {P : Program} {w : World} {K : PySem.W.Frag} {mg : Str → Option Value} {base : Heap} {f : Addr} {fd : FuncData} (T : Tf K mg) (F : Fun K "_law_asked" "_law_asked" s__law_asked f fd) (gF : mg "_law_asked" = some (.ref f)) (B : Binds K fd ["_law_text"] []) (D__law_due : Df P w K mg base "_law_due" 3 1 r__law_due) (D_read_table : Df P w K mg base "read_table" 4 1 r_read_table) (D__law_alone : DfX P w K mg base "_law_alone" 1 "_law_error" ["NoText"] (fun c => if fAny ["NoNumber", "NoTable", "NotAlike", "NoStep", "NoMix", "NotEven"] c = true then false else !fAny ["NoSwap", "NoBounds", "NoPlace", "NoSums", "NoBottom", "TooGreat"] c)) :
    Df P w K mg base "_law_asked" 5 1 r__law_asked :=
  ⟨f, fd, _, fn_ok (k := 4) F sc__law_asked 1 rfl 5 rfl (fun cdv A outer s H E hr tk hp =>
    have nd := (sc__law_asked).nd
    (fss_cons (fs_set (i := 1) nd rfl (Or.inl rfl) (fe_call' D__law_due hr (by decide) rfl tk (fa_cons (fe_v 0) fa_nil)))
    (fss_cons (fs_if (ft_cmp op_notN notNM_ok (fe_v 1) (fe_c pe_non))
    (fss_cons (fs_set (i := 2) nd rfl (Or.inl rfl) (fe_call' D_read_table hr (by decide) rfl tk (fa_cons (fe_v 0) fa_nil)))
    (fss_one (fs_ret (fe_and (fe_callB call_isi isiM_ok rfl T.b_isinstance (by decide +kernel) (fa_cons (fe_v 2) (fa_cons (fe_c (pe_bltn (v := .ty "tuple") rfl T.b_tuple (by decide +kernel) rfl)) fa_nil))) (fe_one (fe_cmp (op_eqD hr.units) eqM_ok (fe_v 2) (fe_v 1)))))))
    fss_nil)
    (fss_cons (fs_set (i := 3) nd rfl (Or.inl rfl) (fe_c pe_int))
    (fss_cons (fs_tryA' (i := 4) rfl rfl nd rfl rfl rfl tk T.h_NoText (fun _ _ _ tk hp => (fss_one (fs_expr (fe_call' D_read_table hr (by decide) rfl tk (fa_cons (fe_v 0) fa_nil)))))
    (fus_cons (fu_add (j := 3) (fub_call' D__law_alone hr (by decide) rfl (by first | exact Or.inl rfl | exact Or.inr (Or.inl rfl) | exact Or.inr (Or.inr rfl)) rfl) nd rfl (Or.inl rfl) (by decide) rfl T.b_int (by decide +kernel))
    fus_nil))
    (fss_cons (fs_if (ft_cmp (op_neD hr.units) neM_ok (fe_v 3) (fe_c pe_int))
    (fss_one (fs_ret (fe_c pe_bl)))
    fss_nil)
    (fss_cons (fs_tryA' (i := 4) rfl rfl nd rfl rfl rfl tk T.h_MixError (fun _ _ _ tk hp => (fss_one (fs_expr (fe_call' D_read_table hr (by decide) rfl tk (fa_cons (fe_v 0) fa_nil)))))
    (fus_cons (fu_mul (j := 3) (fub_isV T.e_R T.v_R rfl (by first | exact Or.inl rfl | exact Or.inr (Or.inl rfl) | exact Or.inr (Or.inr rfl)) rfl T.b_isinstance (by decide +kernel) rfl T.b_ValueError (by decide +kernel)) nd rfl (Or.inl rfl) (by decide) rfl T.b_int (by decide +kernel))
    fus_nil))
    (fss_one (fs_ret (fe_cmp (op_eqD hr.units) eqM_ok (fe_v 3) (fe_c pe_int))))))))))), gF, F.kp, B⟩
abbrev s_law : Stmt := topS 36
theorem sc_law : FnScope ["_law_script", "_law_text"] ["_law_script"] (defScope s_law) := ⟨rfl, rfl, rfl, by decide +kernel, rfl, by decide +kernel, by decide +kernel⟩
theorem fn_law {P : Program} {w : World} {K : PySem.W.Frag} {mg : Str → Option Value} {base : Heap} {f : Addr} {fd : FuncData} (T : Tf K mg) (F : Fun K "law" "law" s_law f fd) (D__law_written : Df P w K mg base "_law_written" 2 1 r__law_written) (D__law_asked : Df P w K mg base "_law_asked" 5 1 r__law_asked) (D__law_odd : Df P w K mg base "_law_odd" 1 1 r__law_odd) (D__law_spoiled : Df P w K mg base "_law_spoiled" 1 2 r__law_spoiled) (D__law_mixed : Df P w K mg base "_law_mixed" 1 2 r__law_mixed) :
    FnOk P w K mg base (L2.CX P w) 6 f fd ["_law_script"] (spM K mg 1 r_law) :=
  fn_ok (k := 5) F sc_law 1 rfl 2 rfl (fun cdv A outer s H E hr tk hp =>
    have nd := (sc_law).nd
    (fss_cons (fs_set (i := 1) nd rfl (Or.inl rfl) (fe_call' D__law_written hr (by decide) rfl tk (fa_cons (fe_v 0) fa_nil)))
    (fss_cons (fs_if (FW.ft (fw_or (ft_not (ft_v (fe_call' D__law_asked hr (by decide) rfl tk (fa_cons (fe_v 1) fa_nil)))) (fw_or1 (ft_not (ft_v (fe_call' D__law_asked hr (by decide) rfl tk (fa_cons (fe_call' D__law_spoiled hr (by decide) rfl tk (fa_cons (fe_v 1) (fa_cons (fe_v 0) fa_nil))) fa_nil)))))))
    (fss_one (fs_ret (fe_c pe_bl)))
    fss_nil)
    (fss_one (fs_ret (fe_and (fe_call' D__law_asked hr (by decide) rfl tk (fa_cons (fe_call' D__law_odd hr (by decide) rfl tk (fa_cons (fe_op op_fdivW fdivM_ok (fe_call' D__law_mixed hr (by decide) rfl tk (fa_cons (fe_v 0) (fa_cons (fe_c pe_int) fa_nil))) (fe_c pe_int)) fa_nil)) fa_nil)) (fe_one (fe_call' D__law_asked hr (by decide) rfl tk (fa_cons (fe_v 1) fa_nil)))))))))
theorem all_mk {l : PySem.W.OpenLaw} {w : World} {K : PySem.W.Frag} {h : Heap} {mg : Str → Option Value} {fa : Addr} {f_0 : Addr} {od_0 an_0 : Option Addr} {sl_0 : Array (Option Value)} {oc_0 kV_0 dc_0 pm_0 cd_0 ct_0 : Value} {f_1 : Addr} {od_1 an_1 : Option Addr} {sl_1 : Array (Option Value)} {oc_1 kV_1 dc_1 pm_1 cd_1 ct_1 : Value} {f_2 : Addr} {od_2 an_2 : Option Addr} {sl_2 : Array (Option Value)} {oc_2 kV_2 dc_2 pm_2 cd_2 ct_2 : Value} {f_3 : Addr} {od_3 an_3 : Option Addr} {sl_3 : Array (Option Value)} {oc_3 kV_3 dc_3 pm_3 cd_3 ct_3 : Value} {f_4 : Addr} {od_4 an_4 : Option Addr} {sl_4 : Array (Option Value)} {oc_4 kV_4 dc_4 pm_4 cd_4 ct_4 : Value} {f_5 : Addr} {od_5 an_5 : Option Addr} {sl_5 : Array (Option Value)} {oc_5 kV_5 dc_5 pm_5 cd_5 ct_5 : Value} {f_6 : Addr} {od_6 an_6 : Option Addr} {sl_6 : Array (Option Value)} {oc_6 kV_6 dc_6 pm_6 cd_6 ct_6 : Value} {f_7 : Addr} {od_7 an_7 : Option Addr} {sl_7 : Array (Option Value)} {oc_7 kV_7 dc_7 pm_7 cd_7 ct_7 : Value} {f_8 : Addr} {od_8 an_8 : Option Addr} {sl_8 : Array (Option Value)} {oc_8 kV_8 dc_8 pm_8 cd_8 ct_8 : Value} {f_9 : Addr} {od_9 an_9 : Option Addr} {sl_9 : Array (Option Value)} {oc_9 kV_9 dc_9 pm_9 cd_9 ct_9 : Value} {f_10 : Addr} {od_10 an_10 : Option Addr} {sl_10 : Array (Option Value)} {oc_10 kV_10 dc_10 pm_10 cd_10 ct_10 : Value} {f_11 : Addr} {od_11 an_11 : Option Addr} {sl_11 : Array (Option Value)} {oc_11 kV_11 dc_11 pm_11 cd_11 ct_11 : Value} {f_12 : Addr} {od_12 an_12 : Option Addr} {sl_12 : Array (Option Value)} {oc_12 kV_12 dc_12 pm_12 cd_12 ct_12 : Value} {f_13 : Addr} {od_13 an_13 : Option Addr} {sl_13 : Array (Option Value)} {oc_13 kV_13 dc_13 pm_13 cd_13 ct_13 : Value} {f_14 : Addr} {od_14 an_14 : Option Addr} {sl_14 : Array (Option Value)} {oc_14 kV_14 dc_14 pm_14 cd_14 ct_14 : Value} {f_15 : Addr} {od_15 an_15 : Option Addr} {sl_15 : Array (Option Value)} {oc_15 kV_15 dc_15 pm_15 cd_15 ct_15 : Value} {tk_0 tk_1 tk_2 : Tok} {C_MixError C_NoTable C_NoBottom C_NotAlike C_NoStep C_NoMix C_NotEven C_NoSwap C_NoBounds C_NoPlace C_NoSums C_TooGreat C_NoNumber C_NoText : Addr} (X : K.In h) (G : h.Ns mainGlobals mg) (hfa : mg "law" = some (.ref fa))
    (a_0 : PySem.W.nsIn K mainGlobals "shared_with" = some (some (.ref f_0))) (l_0 : K.lookup f_0 = some ⟨oc_0, od_0, .func (PySem.W.fnOf "shared_with" "shared_with" (defArgs s_shared_with) (defBody s_shared_with) (defScope s_shared_with) .none kV_0 dc_0 pm_0 an_0 cd_0 ct_0), sl_0⟩) (h_0 : PySem.W.codeIn K cd_0 "shared_with" = true) (k_0 : PySem.W.keepIn K (.ref f_0) = true)
    (a_1 : PySem.W.nsIn K mainGlobals "read_figures" = some (some (.ref f_1))) (l_1 : K.lookup f_1 = some ⟨oc_1, od_1, .func (PySem.W.fnOf "read_figures" "read_figures" (defArgs s_read_figures) (defBody s_read_figures) (defScope s_read_figures) .none kV_1 dc_1 pm_1 an_1 cd_1 ct_1), sl_1⟩) (h_1 : PySem.W.codeIn K cd_1 "read_figures" = true) (k_1 : PySem.W.keepIn K (.ref f_1) = true)
    (a_2 : PySem.W.nsIn K mainGlobals "read_fraction" = some (some (.ref f_2))) (l_2 : K.lookup f_2 = some ⟨oc_2, od_2, .func (PySem.W.fnOf "read_fraction" "read_fraction" (defArgs s_read_fraction) (defBody s_read_fraction) (defScope s_read_fraction) .none kV_2 dc_2 pm_2 an_2 cd_2 ct_2), sl_2⟩) (h_2 : PySem.W.codeIn K cd_2 "read_fraction" = true) (k_2 : PySem.W.keepIn K (.ref f_2) = true)
    (a_3 : PySem.W.nsIn K mainGlobals "read_row" = some (some (.ref f_3))) (l_3 : K.lookup f_3 = some ⟨oc_3, od_3, .func (PySem.W.fnOf "read_row" "read_row" (defArgs s_read_row) (defBody s_read_row) (defScope s_read_row) .none kV_3 dc_3 pm_3 an_3 cd_3 ct_3), sl_3⟩) (h_3 : PySem.W.codeIn K cd_3 "read_row" = true) (k_3 : PySem.W.keepIn K (.ref f_3) = true)
    (a_4 : PySem.W.nsIn K mainGlobals "read_table" = some (some (.ref f_4))) (l_4 : K.lookup f_4 = some ⟨oc_4, od_4, .func (PySem.W.fnOf "read_table" "read_table" (defArgs s_read_table) (defBody s_read_table) (defScope s_read_table) .none kV_4 dc_4 pm_4 an_4 cd_4 ct_4), sl_4⟩) (h_4 : PySem.W.codeIn K cd_4 "read_table" = true) (k_4 : PySem.W.keepIn K (.ref f_4) = true)
    (a_5 : PySem.W.nsIn K mainGlobals "_law_mixed" = some (some (.ref f_5))) (l_5 : K.lookup f_5 = some ⟨oc_5, od_5, .func (PySem.W.fnOf "_law_mixed" "_law_mixed" (defArgs s__law_mixed) (defBody s__law_mixed) (defScope s__law_mixed) .none kV_5 dc_5 pm_5 an_5 cd_5 ct_5), sl_5⟩) (h_5 : PySem.W.codeIn K cd_5 "_law_mixed" = true) (k_5 : PySem.W.keepIn K (.ref f_5) = true)
    (a_6 : PySem.W.nsIn K mainGlobals "_law_shared" = some (some (.ref f_6))) (l_6 : K.lookup f_6 = some ⟨oc_6, od_6, .func (PySem.W.fnOf "_law_shared" "_law_shared" (defArgs s__law_shared) (defBody s__law_shared) (defScope s__law_shared) .none kV_6 dc_6 pm_6 an_6 cd_6 ct_6), sl_6⟩) (h_6 : PySem.W.codeIn K cd_6 "_law_shared" = true) (k_6 : PySem.W.keepIn K (.ref f_6) = true)
    (a_7 : PySem.W.nsIn K mainGlobals "_law_written" = some (some (.ref f_7))) (l_7 : K.lookup f_7 = some ⟨oc_7, od_7, .func (PySem.W.fnOf "_law_written" "_law_written" (defArgs s__law_written) (defBody s__law_written) (defScope s__law_written) .none kV_7 dc_7 pm_7 an_7 cd_7 ct_7), sl_7⟩) (h_7 : PySem.W.codeIn K cd_7 "_law_written" = true) (k_7 : PySem.W.keepIn K (.ref f_7) = true)
    (a_8 : PySem.W.nsIn K mainGlobals "_law_spoiled" = some (some (.ref f_8))) (l_8 : K.lookup f_8 = some ⟨oc_8, od_8, .func (PySem.W.fnOf "_law_spoiled" "_law_spoiled" (defArgs s__law_spoiled) (defBody s__law_spoiled) (defScope s__law_spoiled) .none kV_8 dc_8 pm_8 an_8 cd_8 ct_8), sl_8⟩) (h_8 : PySem.W.codeIn K cd_8 "_law_spoiled" = true) (k_8 : PySem.W.keepIn K (.ref f_8) = true)
    (a_9 : PySem.W.nsIn K mainGlobals "_law_odd" = some (some (.ref f_9))) (l_9 : K.lookup f_9 = some ⟨oc_9, od_9, .func (PySem.W.fnOf "_law_odd" "_law_odd" (defArgs s__law_odd) (defBody s__law_odd) (defScope s__law_odd) .none kV_9 dc_9 pm_9 an_9 cd_9 ct_9), sl_9⟩) (h_9 : PySem.W.codeIn K cd_9 "_law_odd" = true) (k_9 : PySem.W.keepIn K (.ref f_9) = true)
    (a_10 : PySem.W.nsIn K mainGlobals "_law_number" = some (some (.ref f_10))) (l_10 : K.lookup f_10 = some ⟨oc_10, od_10, .func (PySem.W.fnOf "_law_number" "_law_number" (defArgs s__law_number) (defBody s__law_number) (defScope s__law_number) .none kV_10 dc_10 pm_10 an_10 cd_10 ct_10), sl_10⟩) (h_10 : PySem.W.codeIn K cd_10 "_law_number" = true) (k_10 : PySem.W.keepIn K (.ref f_10) = true)
    (a_11 : PySem.W.nsIn K mainGlobals "_law_fraction" = some (some (.ref f_11))) (l_11 : K.lookup f_11 = some ⟨oc_11, od_11, .func (PySem.W.fnOf "_law_fraction" "_law_fraction" (defArgs s__law_fraction) (defBody s__law_fraction) (defScope s__law_fraction) .none kV_11 dc_11 pm_11 an_11 cd_11 ct_11), sl_11⟩) (h_11 : PySem.W.codeIn K cd_11 "_law_fraction" = true) (k_11 : PySem.W.keepIn K (.ref f_11) = true)
    (a_12 : PySem.W.nsIn K mainGlobals "_law_due" = some (some (.ref f_12))) (l_12 : K.lookup f_12 = some ⟨oc_12, od_12, .func (PySem.W.fnOf "_law_due" "_law_due" (defArgs s__law_due) (defBody s__law_due) (defScope s__law_due) .none kV_12 dc_12 pm_12 an_12 cd_12 ct_12), sl_12⟩) (h_12 : PySem.W.codeIn K cd_12 "_law_due" = true) (k_12 : PySem.W.keepIn K (.ref f_12) = true)
    (a_13 : PySem.W.nsIn K mainGlobals "_law_alone" = some (some (.ref f_13))) (l_13 : K.lookup f_13 = some ⟨oc_13, od_13, .func (PySem.W.fnOf "_law_alone" "_law_alone" (defArgs s__law_alone) (defBody s__law_alone) (defScope s__law_alone) .none kV_13 dc_13 pm_13 an_13 cd_13 ct_13), sl_13⟩) (h_13 : PySem.W.codeIn K cd_13 "_law_alone" = true) (k_13 : PySem.W.keepIn K (.ref f_13) = true)
    (a_14 : PySem.W.nsIn K mainGlobals "_law_asked" = some (some (.ref f_14))) (l_14 : K.lookup f_14 = some ⟨oc_14, od_14, .func (PySem.W.fnOf "_law_asked" "_law_asked" (defArgs s__law_asked) (defBody s__law_asked) (defScope s__law_asked) .none kV_14 dc_14 pm_14 an_14 cd_14 ct_14), sl_14⟩) (h_14 : PySem.W.codeIn K cd_14 "_law_asked" = true) (k_14 : PySem.W.keepIn K (.ref f_14) = true)
    (a_15 : PySem.W.nsIn K mainGlobals "law" = some (some (.ref f_15))) (l_15 : K.lookup f_15 = some ⟨oc_15, od_15, .func (PySem.W.fnOf "law" "law" (defArgs s_law) (defBody s_law) (defScope s_law) .none kV_15 dc_15 pm_15 an_15 cd_15 ct_15), sl_15⟩) (h_15 : PySem.W.codeIn K cd_15 "law" = true) (k_15 : PySem.W.keepIn K (.ref f_15) = true)
    (z_0 : PySem.W.nsIn K mainGlobals "FIGURES" = some (some (.str (PySem.Str.ofString "0123456789") tk_0))) (z_1 : PySem.W.nsIn K mainGlobals "MOST_FIGURES" = some (some (.int 30 tk_1))) (z_2 : PySem.W.nsIn K mainGlobals "MOST_WIDE" = some (some (.int 8 tk_2))) (z_3 : PySem.W.nsIn K mainGlobals "ValueError" = some none) (z_4 : PySem.W.nsIn K mainGlobals "abs" = some none) (z_5 : PySem.W.nsIn K mainGlobals "int" = some none) (z_6 : PySem.W.nsIn K mainGlobals "isinstance" = some none) (z_7 : PySem.W.nsIn K mainGlobals "len" = some none) (z_8 : PySem.W.nsIn K mainGlobals "range" = some none) (z_9 : PySem.W.nsIn K mainGlobals "str" = some none) (z_10 : PySem.W.nsIn K mainGlobals "tuple" = some none) (g_MixError : PySem.W.nsIn K mainGlobals "MixError" = some (some (.ref C_MixError))) (g_NoTable : PySem.W.nsIn K mainGlobals "NoTable" = some (some (.ref C_NoTable))) (g_NoBottom : PySem.W.nsIn K mainGlobals "NoBottom" = some (some (.ref C_NoBottom))) (g_NotAlike : PySem.W.nsIn K mainGlobals "NotAlike" = some (some (.ref C_NotAlike))) (g_NoStep : PySem.W.nsIn K mainGlobals "NoStep" = some (some (.ref C_NoStep))) (g_NoMix : PySem.W.nsIn K mainGlobals "NoMix" = some (some (.ref C_NoMix))) (g_NotEven : PySem.W.nsIn K mainGlobals "NotEven" = some (some (.ref C_NotEven))) (g_NoSwap : PySem.W.nsIn K mainGlobals "NoSwap" = some (some (.ref C_NoSwap))) (g_NoBounds : PySem.W.nsIn K mainGlobals "NoBounds" = some (some (.ref C_NoBounds))) (g_NoPlace : PySem.W.nsIn K mainGlobals "NoPlace" = some (some (.ref C_NoPlace))) (g_NoSums : PySem.W.nsIn K mainGlobals "NoSums" = some (some (.ref C_NoSums))) (g_TooGreat : PySem.W.nsIn K mainGlobals "TooGreat" = some (some (.ref C_TooGreat))) (g_NoNumber : PySem.W.nsIn K mainGlobals "NoNumber" = some (some (.ref C_NoNumber))) (g_NoText : PySem.W.nsIn K mainGlobals "NoText" = some (some (.ref C_NoText))) (b_MixError : PySem.W.subIn K (.ref C_MixError) (.type "BaseException") = some true) (t_MixError : PySem.W.typeIn K (.ref C_MixError) = some (.type "type")) (d_MixError : PySem.W.hasDictIn K C_MixError = true) (t_NoTable : PySem.W.typeIn K (.ref C_NoTable) = some (.type "type")) (d_NoTable : PySem.W.hasDictIn K C_NoTable = true) (t_NoBottom : PySem.W.typeIn K (.ref C_NoBottom) = some (.type "type")) (d_NoBottom : PySem.W.hasDictIn K C_NoBottom = true) (t_NotAlike : PySem.W.typeIn K (.ref C_NotAlike) = some (.type "type")) (d_NotAlike : PySem.W.hasDictIn K C_NotAlike = true) (t_NoStep : PySem.W.typeIn K (.ref C_NoStep) = some (.type "type")) (d_NoStep : PySem.W.hasDictIn K C_NoStep = true) (t_NoMix : PySem.W.typeIn K (.ref C_NoMix) = some (.type "type")) (d_NoMix : PySem.W.hasDictIn K C_NoMix = true) (t_NotEven : PySem.W.typeIn K (.ref C_NotEven) = some (.type "type")) (d_NotEven : PySem.W.hasDictIn K C_NotEven = true) (t_NoSwap : PySem.W.typeIn K (.ref C_NoSwap) = some (.type "type")) (d_NoSwap : PySem.W.hasDictIn K C_NoSwap = true) (t_NoBounds : PySem.W.typeIn K (.ref C_NoBounds) = some (.type "type")) (d_NoBounds : PySem.W.hasDictIn K C_NoBounds = true) (t_NoPlace : PySem.W.typeIn K (.ref C_NoPlace) = some (.type "type")) (d_NoPlace : PySem.W.hasDictIn K C_NoPlace = true) (t_NoSums : PySem.W.typeIn K (.ref C_NoSums) = some (.type "type")) (d_NoSums : PySem.W.hasDictIn K C_NoSums = true) (t_TooGreat : PySem.W.typeIn K (.ref C_TooGreat) = some (.type "type")) (d_TooGreat : PySem.W.hasDictIn K C_TooGreat = true) (t_NoNumber : PySem.W.typeIn K (.ref C_NoNumber) = some (.type "type")) (d_NoNumber : PySem.W.hasDictIn K C_NoNumber = true) (x_NoText : PySem.W.excIn K C_NoText [.type "ValueError", .type "Exception", .type "BaseException", .type "object"] "ValueError.__new__" = true) (p_NoText : PySem.W.keepIn K (.ref C_NoText) = true) (b_NoText : PySem.W.subIn K (.ref C_NoText) (.type "BaseException") = some true) (t_NoText : PySem.W.typeIn K (.ref C_NoText) = some (.type "type")) (d_NoText : PySem.W.hasDictIn K C_NoText = true) (s_NoText_NoText : PySem.W.subIn K (.ref C_NoText) (.ref C_NoText) = some true) (s_NoText_MixError : PySem.W.subIn K (.ref C_NoText) (.ref C_MixError) = some true) (q_NoText_NoNumber : PySem.W.subIn K (.ref C_NoText) (.ref C_NoNumber) = some false) (q_NoText_NoTable : PySem.W.subIn K (.ref C_NoText) (.ref C_NoTable) = some false) (q_NoText_NotAlike : PySem.W.subIn K (.ref C_NoText) (.ref C_NotAlike) = some false) (q_NoText_NoStep : PySem.W.subIn K (.ref C_NoText) (.ref C_NoStep) = some false) (q_NoText_NoMix : PySem.W.subIn K (.ref C_NoText) (.ref C_NoMix) = some false) (q_NoText_NotEven : PySem.W.subIn K (.ref C_NoText) (.ref C_NotEven) = some false) (q_NoText_NoSwap : PySem.W.subIn K (.ref C_NoText) (.ref C_NoSwap) = some false) (q_NoText_NoBounds : PySem.W.subIn K (.ref C_NoText) (.ref C_NoBounds) = some false) (q_NoText_NoPlace : PySem.W.subIn K (.ref C_NoText) (.ref C_NoPlace) = some false) (q_NoText_NoSums : PySem.W.subIn K (.ref C_NoText) (.ref C_NoSums) = some false) (q_NoText_NoBottom : PySem.W.subIn K (.ref C_NoText) (.ref C_NoBottom) = some false) (q_NoText_TooGreat : PySem.W.subIn K (.ref C_NoText) (.ref C_TooGreat) = some false) (r_NoText : PySem.W.subIn K (.ref C_NoText) (.ref C_NoText) = some true) (gn : PySem.W.specialIn K (.builtin "object.__class__") "__get__" = some (some (.builtin "getset_descriptor.__get__"))) (gt : PySem.W.takesIn K (.builtin "object.__class__") = some true) (ga_NoText : PySem.W.findIn K (.ref C_NoText) "__getattribute__" = some (some (.builtin "BaseException.__getattribute__"))) (gk_NoText : PySem.W.findIn K (.ref C_NoText) "__getattr__" = some none) (gc_NoText : PySem.W.findIn K (.ref C_NoText) "__class__" = some (some (.builtin "object.__class__"))) (gm_NoText : PySem.W.mroIn K C_NoText (.type "object") = some true) (gv_NoText : PySem.W.subIn K (.ref C_NoText) (.type "ValueError") = some true) :
    ∃ fd : FuncData, (∀ (s : Shared) (v : Value), BindsTo s fd ⟨[v], []⟩ [("_law_script", v)]) ∧ ∀ base : Heap, K.In base → base.Ns mainGlobals mg → FnOk l.prog w K mg base (L2.CX l.prog w) 6 fa fd ["_law_script"] (spLw K r_law) := by
  have e := hfa.symm.trans (PySem.W.mg_of X G a_15)
  cases e
  have T : Tf K mg := ⟨⟨⟨C_NoText, (PySem.W.mg_of X G g_NoText), x_NoText, p_NoText, b_NoText, t_NoText⟩⟩, ⟨C_NoText, (PySem.W.mg_of X G g_NoText), (cls_cons (cls_at (PySem.W.mg_of X G g_NoText) (exm_by (by decide) b_NoText d_NoText t_NoText s_NoText_NoText)) cls_nil)⟩, ⟨C_MixError, (PySem.W.mg_of X G g_MixError), (cls_cons (cls_at (PySem.W.mg_of X G g_NoText) (exm_by (by decide) b_MixError d_MixError t_MixError s_NoText_MixError)) cls_nil)⟩, ⟨⟨C_NoNumber, (PySem.W.mg_of X G g_NoNumber), (cls_cons (cls_at (PySem.W.mg_of X G g_NoText) (kit_by (by decide) d_NoNumber t_NoNumber q_NoText_NoNumber r_NoText)) cls_nil)⟩⟩, ⟨⟨C_NoTable, (PySem.W.mg_of X G g_NoTable), (cls_cons (cls_at (PySem.W.mg_of X G g_NoText) (kit_by (by decide) d_NoTable t_NoTable q_NoText_NoTable r_NoText)) cls_nil)⟩⟩, ⟨⟨C_NotAlike, (PySem.W.mg_of X G g_NotAlike), (cls_cons (cls_at (PySem.W.mg_of X G g_NoText) (kit_by (by decide) d_NotAlike t_NotAlike q_NoText_NotAlike r_NoText)) cls_nil)⟩⟩, ⟨⟨C_NoStep, (PySem.W.mg_of X G g_NoStep), (cls_cons (cls_at (PySem.W.mg_of X G g_NoText) (kit_by (by decide) d_NoStep t_NoStep q_NoText_NoStep r_NoText)) cls_nil)⟩⟩, ⟨⟨C_NoMix, (PySem.W.mg_of X G g_NoMix), (cls_cons (cls_at (PySem.W.mg_of X G g_NoText) (kit_by (by decide) d_NoMix t_NoMix q_NoText_NoMix r_NoText)) cls_nil)⟩⟩, ⟨⟨C_NotEven, (PySem.W.mg_of X G g_NotEven), (cls_cons (cls_at (PySem.W.mg_of X G g_NoText) (kit_by (by decide) d_NotEven t_NotEven q_NoText_NotEven r_NoText)) cls_nil)⟩⟩, ⟨⟨C_NoSwap, (PySem.W.mg_of X G g_NoSwap), (cls_cons (cls_at (PySem.W.mg_of X G g_NoText) (kit_by (by decide) d_NoSwap t_NoSwap q_NoText_NoSwap r_NoText)) cls_nil)⟩⟩, ⟨⟨C_NoBounds, (PySem.W.mg_of X G g_NoBounds), (cls_cons (cls_at (PySem.W.mg_of X G g_NoText) (kit_by (by decide) d_NoBounds t_NoBounds q_NoText_NoBounds r_NoText)) cls_nil)⟩⟩, ⟨⟨C_NoPlace, (PySem.W.mg_of X G g_NoPlace), (cls_cons (cls_at (PySem.W.mg_of X G g_NoText) (kit_by (by decide) d_NoPlace t_NoPlace q_NoText_NoPlace r_NoText)) cls_nil)⟩⟩, ⟨⟨C_NoSums, (PySem.W.mg_of X G g_NoSums), (cls_cons (cls_at (PySem.W.mg_of X G g_NoText) (kit_by (by decide) d_NoSums t_NoSums q_NoText_NoSums r_NoText)) cls_nil)⟩⟩, ⟨⟨C_NoBottom, (PySem.W.mg_of X G g_NoBottom), (cls_cons (cls_at (PySem.W.mg_of X G g_NoText) (kit_by (by decide) d_NoBottom t_NoBottom q_NoText_NoBottom r_NoText)) cls_nil)⟩⟩, ⟨⟨C_TooGreat, (PySem.W.mg_of X G g_TooGreat), (cls_cons (cls_at (PySem.W.mg_of X G g_NoText) (kit_by (by decide) d_TooGreat t_TooGreat q_NoText_TooGreat r_NoText)) cls_nil)⟩⟩, (cls_cons (cls_at (PySem.W.mg_of X G g_NoText) ⟨ga_NoText, gk_NoText, b_NoText, d_NoText, gc_NoText, gn, gt, gm_NoText⟩) cls_nil), (cls_cons (cls_at (PySem.W.mg_of X G g_NoText) (kitV_by gv_NoText)) cls_nil), ⟨_, PySem.W.mg_of X G z_0⟩, ⟨_, PySem.W.mg_of X G z_1⟩, ⟨_, PySem.W.mg_of X G z_2⟩, PySem.W.mg_none_of X G z_3, PySem.W.mg_none_of X G z_4, PySem.W.mg_none_of X G z_5, PySem.W.mg_none_of X G z_6, PySem.W.mg_none_of X G z_7, PySem.W.mg_none_of X G z_8, PySem.W.mg_none_of X G z_9, PySem.W.mg_none_of X G z_10⟩
  have F_0 := fun_mk (st := s_shared_with) l_0 h_0 k_0
  have B_0 := (F_0).binds (ps := ["bottom", "number"]) fun _ _ _ _ _ _ us hl => match us, hl with | [_, _], _ => rfl
  have F_1 := fun_mk (st := s_read_figures) l_1 h_1 k_1
  have B_1 := (F_1).binds (ps := ["word"]) fun _ _ _ _ _ _ us hl => match us, hl with | [_], _ => rfl
  have F_2 := fun_mk (st := s_read_fraction) l_2 h_2 k_2
  have B_2 := (F_2).binds (ps := ["word"]) fun _ _ _ _ _ _ us hl => match us, hl with | [_], _ => rfl
  have F_3 := fun_mk (st := s_read_row) l_3 h_3 k_3
  have B_3 := (F_3).binds (ps := ["line"]) fun _ _ _ _ _ _ us hl => match us, hl with | [_], _ => rfl
  have F_4 := fun_mk (st := s_read_table) l_4 h_4 k_4
  have B_4 := (F_4).binds (ps := ["text"]) fun _ _ _ _ _ _ us hl => match us, hl with | [_], _ => rfl
  have F_5 := fun_mk (st := s__law_mixed) l_5 h_5 k_5
  have B_5 := (F_5).binds (ps := ["_law_script", "_law_number_here"]) fun _ _ _ _ _ _ us hl => match us, hl with | [_, _], _ => rfl
  have F_6 := fun_mk (st := s__law_shared) l_6 h_6 k_6
  have B_6 := (F_6).binds (ps := ["_law_one", "_law_other"]) fun _ _ _ _ _ _ us hl => match us, hl with | [_, _], _ => rfl
  have F_7 := fun_mk (st := s__law_written) l_7 h_7 k_7
  have B_7 := (F_7).binds (ps := ["_law_script"]) fun _ _ _ _ _ _ us hl => match us, hl with | [_], _ => rfl
  have F_8 := fun_mk (st := s__law_spoiled) l_8 h_8 k_8
  have B_8 := (F_8).binds (ps := ["_law_text", "_law_script"]) fun _ _ _ _ _ _ us hl => match us, hl with | [_, _], _ => rfl
  have F_9 := fun_mk (st := s__law_odd) l_9 h_9 k_9
  have B_9 := (F_9).binds (ps := ["_law_number_here"]) fun _ _ _ _ _ _ us hl => match us, hl with | [_], _ => rfl
  have F_10 := fun_mk (st := s__law_number) l_10 h_10 k_10
  have B_10 := (F_10).binds (ps := ["_law_word"]) fun _ _ _ _ _ _ us hl => match us, hl with | [_], _ => rfl
  have F_11 := fun_mk (st := s__law_fraction) l_11 h_11 k_11
  have B_11 := (F_11).binds (ps := ["_law_word"]) fun _ _ _ _ _ _ us hl => match us, hl with | [_], _ => rfl
  have F_12 := fun_mk (st := s__law_due) l_12 h_12 k_12
  have B_12 := (F_12).binds (ps := ["_law_text"]) fun _ _ _ _ _ _ us hl => match us, hl with | [_], _ => rfl
  have F_13 := fun_mk (st := s__law_alone) l_13 h_13 k_13
  have B_13 := (F_13).binds (ps := ["_law_error"]) fun _ _ _ _ _ _ us hl => match us, hl with | [_], _ => rfl
  have F_14 := fun_mk (st := s__law_asked) l_14 h_14 k_14
  have B_14 := (F_14).binds (ps := ["_law_text"]) fun _ _ _ _ _ _ us hl => match us, hl with | [_], _ => rfl
  have F_15 := fun_mk (st := s_law) l_15 h_15 k_15
  have B_15 := (F_15).binds (ps := ["_law_script"]) fun _ _ _ _ _ _ us hl => match us, hl with | [_], _ => rfl
  refine ⟨PySem.W.fnOf "law" "law" (defArgs s_law) (defBody s_law) (defScope s_law) .none kV_15 dc_15 pm_15 an_15 cd_15 ct_15, fun s v => .of_eq rfl, fun base _ _ => ?_⟩
  have D_0 := ok_shared_with (P := l.prog) (w := w) (base := base) T F_0 (PySem.W.mg_of X G a_0) B_0 
  have D_1 := ok_read_figures (P := l.prog) (w := w) (base := base) T F_1 (PySem.W.mg_of X G a_1) B_1 
  have D_2 := ok_read_fraction (P := l.prog) (w := w) (base := base) T F_2 (PySem.W.mg_of X G a_2) B_2 D_1 D_0
  have D_3 := ok_read_row (P := l.prog) (w := w) (base := base) T F_3 (PySem.W.mg_of X G a_3) B_3 D_2
  have D_4 := ok_read_table (P := l.prog) (w := w) (base := base) T F_4 (PySem.W.mg_of X G a_4) B_4 D_3 D_0
  have D_5 := ok__law_mixed (P := l.prog) (w := w) (base := base) T F_5 (PySem.W.mg_of X G a_5) B_5 
  have D_6 := ok__law_shared (P := l.prog) (w := w) (base := base) T F_6 (PySem.W.mg_of X G a_6) B_6 
  have D_7 := ok__law_written (P := l.prog) (w := w) (base := base) T F_7 (PySem.W.mg_of X G a_7) B_7 D_5 D_6
  have D_8 := ok__law_spoiled (P := l.prog) (w := w) (base := base) T F_8 (PySem.W.mg_of X G a_8) B_8 
  have D_9 := ok__law_odd (P := l.prog) (w := w) (base := base) T F_9 (PySem.W.mg_of X G a_9) B_9 
  have D_10 := ok__law_number (P := l.prog) (w := w) (base := base) T F_10 (PySem.W.mg_of X G a_10) B_10 
  have D_11 := ok__law_fraction (P := l.prog) (w := w) (base := base) T F_11 (PySem.W.mg_of X G a_11) B_11 D_10 D_6
  have D_12 := ok__law_due (P := l.prog) (w := w) (base := base) T F_12 (PySem.W.mg_of X G a_12) B_12 D_11 D_6
  have D_13 := ok__law_alone (P := l.prog) (w := w) (base := base) T F_13 (PySem.W.mg_of X G a_13) B_13 
  have D_14 := ok__law_asked (P := l.prog) (w := w) (base := base) T F_14 (PySem.W.mg_of X G a_14) B_14 D_12 D_4 D_13
  exact (fn_law (P := l.prog) (w := w) (base := base) T F_15 D_7 D_14 D_9 D_8 D_5).imp fun vs H Q E q => spLw_imp q
end Lw
open PySem PySem.W PyProof.Rows
set_option maxHeartbeats 0 in
theorem PySem.Challenge.cw_evenmix_k63_texts_refused_holds : PySem.Challenge.rw_evenmix_k63_texts_refused.Holds := by
  w_on; o_law; k_head; (case hw => w_witness2)
  k_fill
  refine L2.walk_of (l := PySem.Challenge.rw_evenmix_k63_texts_refused) (n := 63) (k := 6) (x := "_law_script") (CX := fun w => L2.CX PySem.Challenge.rw_evenmix_k63_texts_refused.prog w) (sp := fun w => Fx.spLw _ Lw.r_law) rfl (by decide) rfl ⟨rfl, by decide, by decide⟩ (fun w h Y => PySem.W.kIn_of Y) ?F (fun w H a ns hl ho hS => ⟨a, ns, rfl, hl, ho, hS, Lw.law_true ns hl, fun _ => rfl⟩) (fun w H s e s' h => Fx.passL' H s e s' h)
  case F =>
    intro w mg fa h KX G hmg
    refine' Lw.all_mk KX G hmg ?a_0 ?l_0 ?h_0 ?k_0 ?a_1 ?l_1 ?h_1 ?k_1 ?a_2 ?l_2 ?h_2 ?k_2 ?a_3 ?l_3 ?h_3 ?k_3 ?a_4 ?l_4 ?h_4 ?k_4 ?a_5 ?l_5 ?h_5 ?k_5 ?a_6 ?l_6 ?h_6 ?k_6 ?a_7 ?l_7 ?h_7 ?k_7 ?a_8 ?l_8 ?h_8 ?k_8 ?a_9 ?l_9 ?h_9 ?k_9 ?a_10 ?l_10 ?h_10 ?k_10 ?a_11 ?l_11 ?h_11 ?k_11 ?a_12 ?l_12 ?h_12 ?k_12 ?a_13 ?l_13 ?h_13 ?k_13 ?a_14 ?l_14 ?h_14 ?k_14 ?a_15 ?l_15 ?h_15 ?k_15 ?z_0 ?z_1 ?z_2 ?z_3 ?z_4 ?z_5 ?z_6 ?z_7 ?z_8 ?z_9 ?z_10 ?g_MixError ?g_NoTable ?g_NoBottom ?g_NotAlike ?g_NoStep ?g_NoMix ?g_NotEven ?g_NoSwap ?g_NoBounds ?g_NoPlace ?g_NoSums ?g_TooGreat ?g_NoNumber ?g_NoText ?b_MixError ?t_MixError ?d_MixError ?t_NoTable ?d_NoTable ?t_NoBottom ?d_NoBottom ?t_NotAlike ?d_NotAlike ?t_NoStep ?d_NoStep ?t_NoMix ?d_NoMix ?t_NotEven ?d_NotEven ?t_NoSwap ?d_NoSwap ?t_NoBounds ?d_NoBounds ?t_NoPlace ?d_NoPlace ?t_NoSums ?d_NoSums ?t_TooGreat ?d_TooGreat ?t_NoNumber ?d_NoNumber ?x_NoText ?p_NoText ?b_NoText ?t_NoText ?d_NoText ?s_NoText_NoText ?s_NoText_MixError ?q_NoText_NoNumber ?q_NoText_NoTable ?q_NoText_NotAlike ?q_NoText_NoStep ?q_NoText_NoMix ?q_NoText_NotEven ?q_NoText_NoSwap ?q_NoText_NoBounds ?q_NoText_NoPlace ?q_NoText_NoSums ?q_NoText_NoBottom ?q_NoText_TooGreat ?r_NoText ?gn ?gt ?ga_NoText ?gk_NoText ?gc_NoText ?gm_NoText ?gv_NoText
    (case a_0 => k_is); (case l_0 => k_is); (case h_0 => k_is); (case k_0 => k_is); (case a_1 => k_is); (case l_1 => k_is); (case h_1 => k_is); (case k_1 => k_is); (case a_2 => k_is); (case l_2 => k_is); (case h_2 => k_is); (case k_2 => k_is); (case a_3 => k_is); (case l_3 => k_is); (case h_3 => k_is); (case k_3 => k_is); (case a_4 => k_is); (case l_4 => k_is); (case h_4 => k_is); (case k_4 => k_is); (case a_5 => k_is); (case l_5 => k_is); (case h_5 => k_is); (case k_5 => k_is); (case a_6 => k_is); (case l_6 => k_is); (case h_6 => k_is); (case k_6 => k_is); (case a_7 => k_is); (case l_7 => k_is); (case h_7 => k_is); (case k_7 => k_is); (case a_8 => k_is); (case l_8 => k_is); (case h_8 => k_is); (case k_8 => k_is); (case a_9 => k_is); (case l_9 => k_is); (case h_9 => k_is); (case k_9 => k_is); (case a_10 => k_is); (case l_10 => k_is); (case h_10 => k_is); (case k_10 => k_is); (case a_11 => k_is); (case l_11 => k_is); (case h_11 => k_is); (case k_11 => k_is); (case a_12 => k_is); (case l_12 => k_is); (case h_12 => k_is); (case k_12 => k_is); (case a_13 => k_is); (case l_13 => k_is); (case h_13 => k_is); (case k_13 => k_is); (case a_14 => k_is); (case l_14 => k_is); (case h_14 => k_is); (case k_14 => k_is); (case a_15 => k_is); (case l_15 => k_is); (case h_15 => k_is); (case k_15 => k_is); (case z_0 => k_is); (case z_1 => k_is); (case z_2 => k_is); (case z_3 => k_is); (case z_4 => k_is); (case z_5 => k_is); (case z_6 => k_is); (case z_7 => k_is); (case z_8 => k_is); (case z_9 => k_is); (case z_10 => k_is); (case g_MixError => k_is); (case g_NoTable => k_is); (case g_NoBottom => k_is); (case g_NotAlike => k_is); (case g_NoStep => k_is); (case g_NoMix => k_is); (case g_NotEven => k_is); (case g_NoSwap => k_is); (case g_NoBounds => k_is); (case g_NoPlace => k_is); (case g_NoSums => k_is); (case g_TooGreat => k_is); (case g_NoNumber => k_is); (case g_NoText => k_is); (case b_MixError => k_is); (case t_MixError => k_is); (case d_MixError => k_is); (case t_NoTable => k_is); (case d_NoTable => k_is); (case t_NoBottom => k_is); (case d_NoBottom => k_is); (case t_NotAlike => k_is); (case d_NotAlike => k_is); (case t_NoStep => k_is); (case d_NoStep => k_is); (case t_NoMix => k_is); (case d_NoMix => k_is); (case t_NotEven => k_is); (case d_NotEven => k_is); (case t_NoSwap => k_is); (case d_NoSwap => k_is); (case t_NoBounds => k_is); (case d_NoBounds => k_is); (case t_NoPlace => k_is); (case d_NoPlace => k_is); (case t_NoSums => k_is); (case d_NoSums => k_is); (case t_TooGreat => k_is); (case d_TooGreat => k_is); (case t_NoNumber => k_is); (case d_NoNumber => k_is); (case x_NoText => k_exc); (case p_NoText => k_is); (case b_NoText => k_is); (case t_NoText => k_is); (case d_NoText => k_is); (case s_NoText_NoText => k_is); (case s_NoText_MixError => k_is); (case q_NoText_NoNumber => k_is); (case q_NoText_NoTable => k_is); (case q_NoText_NotAlike => k_is); (case q_NoText_NoStep => k_is); (case q_NoText_NoMix => k_is); (case q_NoText_NotEven => k_is); (case q_NoText_NoSwap => k_is); (case q_NoText_NoBounds => k_is); (case q_NoText_NoPlace => k_is); (case q_NoText_NoSums => k_is); (case q_NoText_NoBottom => k_is); (case q_NoText_TooGreat => k_is); (case r_NoText => k_is); (case gn => k_is); (case gt => k_is); (case ga_NoText => k_is); (case gk_NoText => k_is); (case gc_NoText => k_is); (case gm_NoText => k_is); (case gv_NoText => k_is)
