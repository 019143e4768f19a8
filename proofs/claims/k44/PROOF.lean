import PyProof.Rows.All
import Wide.All
import OpenK.AllK
import Wide.FinOn
import HandS.ForMost
import HandS.ForExc
import HandS.CallSlots
import HandS.Lambda
import KE.KeyNested
import PyProof.DictRoadsH
import HandS.IsInst
import HandS.Wide
import HandS.SortKw
import HandS.SortInts
import HandS.Conv
import HandS.Rev
import HandS.SetFor
import HandS.Remove
import HandS.ExcIs
import KE.KUnpack
import HandS.RevTup
import KE.KDictList
import HandS.Dict
import HandS.Defaults
import HandS.More
import HandS.WordsDict
import HandS.Small
import HandS.Deep
import HandS.Iter
import HandS.TupLen
import PyProof.ZipIter
import KE.KDictKeyed
import KE.DatumOrd
import HandS.HotCalls
import HandS.TryMany
import PySem.Challenge.RW_evenmix_k44_fates
set_option Elab.async false
set_option linter.all false
set_option maxRecDepth 100000
set_option maxHeartbeats 4000000
/-! Fx: a functional reading of Python bodies over an abstract store, and its soundness over the hand layer. -/
namespace Fx
open PySem PySem.Spec L2
open PyProof.Rows hiding St

/-- what stands at a name of the abstract store -/
inductive Ob where
  | lst (xs : List V)
  | tup (xs : List V)
  | frl (xs : List V)
  | dK (kvs : List (Key × V))
  | dT (kvs : List (List Key × V))
  /-- a dict by tuples that is walked -/
  | fD (kvs : List (List Key × V))
  /-- the table of code objects of the def x, the lambda's name q -/
  | tab (x q : Str)
  /-- a dict by pairs of a whole number and a tuple of whole numbers -/
  | dN (kvs : List ((Int × List Int) × V))
  deriving DecidableEq
abbrev Sto := List Ob
inductive R (α : Type) where
  | ok (a : α) (S : Sto)
  | exc (c : String) (S : Sto)
  | bad
def R.bind {α β : Type} (r : R α) (f : α → Sto → R β) : R β := match r with
  | .ok a S => f a S
  | .exc c S => .exc c S
  | .bad => .bad
@[simp] theorem R.bind_ok {α β : Type} (a : α) (S : Sto) (f : α → Sto → R β) : (R.ok a S).bind f = f a S := rfl
@[simp] theorem R.bind_exc {α β : Type} (c : String) (S : Sto) (f : α → Sto → R β) : (R.exc c S : R α).bind f = .exc c S := rfl
@[simp] theorem R.bind_bad {α β : Type} (f : α → Sto → R β) : (R.bad : R α).bind f = .bad := rfl
/-- an exception is not let out -/
def R.nox {α : Type} (r : R α) : R α := match r with
  | .exc _ _ => .bad
  | r => r
@[simp] theorem R.nox_ok {α : Type} (a : α) (S : Sto) : (R.ok a S).nox = .ok a S := rfl

/-! ### relations -/
def VR (η : List Addr) (v u : V) : Prop := match v with
  | .ref n => ∃ a, η[n]? = some a ∧ u = .ref a
  | v => u = v
abbrev VsR (η : List Addr) : List V → List V → Prop := Paired (VR η)
def OR (η : List Addr) : Option V → Option V → Prop
  | none, _ => True
  | some v, some u => VR η v u
  | some _, none => False
abbrev SR (η : List Addr) : St → St → Prop := Paired (OR η)
theorem pre_get {η η' : List Addr} (h : η <+: η') {n : Nat} {a : Addr} (e : η[n]? = some a) : η'[n]? = some a := by
  obtain ⟨t, rfl⟩ := h
  rw [List.getElem?_append_left (List.getElem?_eq_some_iff.mp e).1]; exact e
theorem VR.mono {η η' : List Addr} (h : η <+: η') {v u : V} (r : VR η v u) : VR η' v u := by
  cases v with
  | ref n => obtain ⟨a, e, q⟩ := r; exact ⟨a, pre_get h e, q⟩
  | _ => exact r
theorem VsR.mono {η η' : List Addr} (h : η <+: η') {v u : List V} (r : VsR η v u) : VsR η' v u := Paired.mono (fun _ _ => VR.mono h) r
theorem OR.mono {η η' : List Addr} (h : η <+: η') : ∀ {v u : Option V}, OR η v u → OR η' v u
  | none, _, _ => trivial
  | some _, some _, r => VR.mono h r
  | some _, none, r => r
theorem SR.mono {η η' : List Addr} (h : η <+: η') {v u : St} (r : SR η v u) : SR η' v u := Paired.mono (fun _ _ => OR.mono h) r
section paired
variable {α β : Type} {F : α → β → Prop}
theorem pget : ∀ {xs : List α} {us : List β} {i : Nat} {x : α}, Paired F xs us → xs[i]? = some x → ∃ u, us[i]? = some u ∧ F x u
  | _, _, _, _, .nil, e => by simp at e
  | _, _, 0, _, .cons r _, e => by simp at e; subst e; exact ⟨_, rfl, r⟩
  | _, _, i + 1, x, .cons _ t, e => by
    obtain ⟨u, h1, h2⟩ := pget (i := i) (x := x) t (by simpa using e)
    exact ⟨u, by simpa using h1, h2⟩
theorem pget' : ∀ {xs : List α} {us : List β} {i : Nat} {u : β}, Paired F xs us → us[i]? = some u → ∃ x, xs[i]? = some x ∧ F x u
  | _, _, _, _, .nil, e => by simp at e
  | _, _, 0, _, .cons r _, e => by simp at e; subst e; exact ⟨_, rfl, r⟩
  | _, _, i + 1, x, .cons _ t, e => by
    obtain ⟨u, h1, h2⟩ := pget' (i := i) (u := x) t (by simpa using e)
    exact ⟨u, by simpa using h1, h2⟩
theorem pset {x : α} {u : β} (r : F x u) : ∀ {xs : List α} {us : List β} (i : Nat), Paired F xs us → Paired F (xs.set i x) (us.set i u)
  | _, _, _, .nil => .nil
  | _, _, 0, .cons _ t => .cons r t
  | _, _, i + 1, .cons q t => .cons q (pset r i t)
theorem papp : ∀ {xs ys : List α} {us ws : List β}, Paired F xs us → Paired F ys ws → Paired F (xs ++ ys) (us ++ ws)
  | _, _, _, _, .nil, s => s
  | _, _, _, _, .cons r t, s => .cons r (papp t s)
theorem ptake : ∀ {xs : List α} {us : List β} (n : Nat), Paired F xs us → Paired F (xs.take n) (us.take n)
  | _, _, 0, _ => .nil
  | _, _, _ + 1, .nil => .nil
  | _, _, n + 1, .cons r t => .cons r (ptake n t)
theorem pdrop : ∀ {xs : List α} {us : List β} (n : Nat), Paired F xs us → Paired F (xs.drop n) (us.drop n)
  | _, _, 0, r => r
  | _, _, _ + 1, .nil => .nil
  | _, _, n + 1, .cons _ t => pdrop n t
theorem perase : ∀ {xs : List α} {us : List β} (n : Nat), Paired F xs us → Paired F (xs.eraseIdx n) (us.eraseIdx n)
  | _, _, _, .nil => .nil
  | _, _, 0, .cons _ t => t
  | _, _, n + 1, .cons r t => .cons r (perase n t)
theorem prev {xs : List α} {us : List β} (h : Paired F xs us) : Paired F xs.reverse us.reverse := by
  induction h with
  | nil => exact .nil
  | cons r _ ih => rw [List.reverse_cons, List.reverse_cons]; exact papp ih (.cons r .nil)
end paired

/-- a key of two floors -/
def nkOf (k : Int × List Int) : NestedKey := .tup [.num k.1, .tup (k.2.map .num)]
abbrev NkE := (Int × List Int) × Addr × V
/-- the dict at a, by keys of two floors: the keys' own tuples stand where the entries say -/
def DNo (a : Addr) (xs : List NkE) : HO := .ext fun h => xs.length ≤ sizeLine ∧ (a == sysModules) = false ∧ ∃ ys : List (NestedKey × Addr × Value),
  Paired (fun (p : NkE) (q : NestedKey × Addr × Value) => nkOf p.1 = q.1 ∧ p.2.1 = q.2.1 ∧ RelV p.2.2 q.2.2) xs ys ∧
  ∃ o es ep, h.get? a = some o ∧ o.ExactDict ∧ o.data = .dict es ep ∧ (∀ (P : Program) (w : World), es.toList = ys.map (entryOfKey (nestedKind P w))) ∧ (ys.map (·.1)).Nodup
def NKh (H : Hp) (k : Int × List Int) (b : Addr) : Prop := ∃ c, H b = some (.tup [.int k.1, .ref c]) ∧ H c = some (.tup (k.2.map V.int))
/-- what is never changed -/
def Imm (o : HO) : Prop := (∃ c q, o = LamX.CodeO c q) ∨ ∃ xs, o = .tup xs
theorem codeO_ne_dn {c a : Addr} {q : Str} {xs : List NkE} : LamX.CodeO c q ≠ DNo a xs := fun e => by
  unfold LamX.CodeO DNo at e
  injection e with e
  have e0 := congrFun e ⟨Array.replicate (c + 1) { cls := .none, data := .fields #[.none, .str q 0] }, {}⟩
  have g : ∀ (i : Addr) (o : Obj), Heap.get? ⟨Array.replicate (c + 1) { cls := .none, data := .fields #[.none, .str q 0] }, {}⟩ i = some o → o = { cls := .none, data := .fields #[.none, .str q 0] } := fun i o h => by
    unfold Heap.get? at h
    rw [Array.getElem?_replicate] at h
    by_cases hi : i < c + 1
    · rw [if_pos hi] at h; cases h; rfl
    · rw [if_neg hi] at h; cases h
  have t0 := e0.mp ⟨{ cls := .none, data := .fields #[.none, .str q 0] }, _, 0, by
    unfold Heap.get?
    rw [Array.getElem?_replicate, if_pos (Nat.lt_succ_self c)], rfl, rfl⟩
  obtain ⟨_, _, ys, _, o, es, ep, h1, _, h2, _⟩ := t0
  rw [g _ _ h1] at h2
  cases h2
/-- what an object of the store stands for -/
def ObR (K : PySem.W.Frag) (η : List Addr) (H : Hp) (o : Ob) (a : Addr) : Prop := match o with
  | .lst xs => xs.length ≤ sizeLine ∧ ∃ us, H a = some (.lst us) ∧ VsR η xs us
  | .tup xs => xs.length ≤ sizeLine ∧ ∃ us, H a = some (.tup us) ∧ VsR η xs us
  | .frl xs => xs.length ≤ sizeLine ∧ ∃ us, ((∃ o, H a = some (.frz o (.lst us))) ∨ SqL K (fun _ => none) a us) ∧ VsR η xs us
  | .dK kvs => kvs.length ≤ sizeLine ∧ ∃ us, H a = some (.dK us) ∧ Paired (fun (p q : Key × V) => p.1 = q.1 ∧ VR η p.2 q.2) kvs us
  | .dT kvs => kvs.length ≤ sizeLine ∧ ∃ us, H a = some (.dT us) ∧ Paired (fun (p q : List Key × V) => p.1 = q.1 ∧ VR η p.2 q.2) kvs us
  | .fD kvs => kvs.length ≤ sizeLine ∧ ∃ us, (∃ o, H a = some (.frz o (.dT us))) ∧ Paired (fun (p q : List Key × V) => p.1 = q.1 ∧ VR η p.2 q.2) kvs us
  | .tab x q => (∃ c, PySem.W.tabIn K x = some (c, a)) ∧ LamX.TabS H a q
  | .dN kvs => kvs.length ≤ sizeLine ∧ ∃ xs : List NkE, H a = some (DNo a xs) ∧ Paired (fun (p : (Int × List Int) × V) (q : NkE) => p.1 = q.1 ∧ VR η p.2 q.2.2) kvs xs ∧ ∀ x ∈ xs, NKh H x.1 x.2.1
def isFrl : Ob → Bool
  | .frl _ => true
  | _ => false
def isTup : Ob → Bool
  | .tup _ => true
  | _ => false
/-- name 0 is the script's, and it alone is frozen -/
structure Rel (K : PySem.W.Frag) (η : List Addr) (S : Sto) (H : Hp) : Prop where
  len : η.length = S.length
  ne : 0 < S.length
  ob : ∀ (n : Nat) (a : Addr) (o : Ob), η[n]? = some a → S[n]? = some o → ObR K η H o a
  fz : ∀ (n : Nat) (o : Ob), S[n]? = some o → (isFrl o = true ↔ n = 0)
  nd : ∀ (m n : Nat) (a : Addr), 0 < m → 0 < n → η[m]? = some a → η[n]? = some a → m = n ∨ ∃ xs, H a = some (.tup xs)
def nT : HO → Bool
  | .tup _ => false
  | .tbl _ => false
  | _ => true
def isFD : Ob → Bool
  | .fD _ => true
  | _ => false
def Ext (η : List Addr) (H : Hp) (η' : List Addr) (H' : Hp) : Prop := η <+: η' ∧ (∀ b o, H b = some o → b ∉ η.drop 1 → nT o = true → H' b = some o ∧ b ∉ η'.drop 1) ∧ ∀ b o u, H b = some (.frz o u) → H' b = some (.frz o u)
theorem Ext.refl (η : List Addr) (H : Hp) : Ext η H η H := ⟨List.prefix_refl _, fun _ _ h n _ => ⟨h, n⟩, fun _ _ _ h => h⟩
theorem Ext.trans {η η1 η2 : List Addr} {H H1 H2 : Hp} (a : Ext η H η1 H1) (b : Ext η1 H1 η2 H2) : Ext η H η2 H2 :=
  ⟨a.1.trans b.1, fun c o h n t => let ⟨h1, n1⟩ := a.2.1 c o h n t; b.2.1 c o h1 n1 t, fun c o u h => b.2.2 c o u (a.2.2 c o u h)⟩
theorem ObR.mono {K : PySem.W.Frag} {η η' : List Addr} {H : Hp} {o : Ob} {a : Addr} (h : η <+: η') (r : ObR K η H o a) : ObR K η' H o a := by
  cases o with
  | lst xs => obtain ⟨z, us, e, p⟩ := r; exact ⟨z, us, e, p.mono h⟩
  | tup xs => obtain ⟨z, us, e, p⟩ := r; exact ⟨z, us, e, p.mono h⟩
  | frl xs => obtain ⟨z, us, e, p⟩ := r; exact ⟨z, us, e, p.mono h⟩
  | dK xs => obtain ⟨z, us, e, p⟩ := r; exact ⟨z, us, e, Paired.mono (fun _ _ q => ⟨q.1, q.2.mono h⟩) p⟩
  | dT xs => obtain ⟨z, us, e, p⟩ := r; exact ⟨z, us, e, Paired.mono (fun _ _ q => ⟨q.1, q.2.mono h⟩) p⟩
  | fD xs => obtain ⟨z, us, e, p⟩ := r; exact ⟨z, us, e, Paired.mono (fun _ _ q => ⟨q.1, q.2.mono h⟩) p⟩
  | tab x q => exact r
  | dN xs => obtain ⟨z, us, e, p, k⟩ := r; exact ⟨z, us, e, Paired.mono (fun _ _ q => ⟨q.1, q.2.mono h⟩) p, k⟩
theorem TabS.at {H H' : Hp} {a : Addr} {q : Str} (h : H' a = H a) (hx : ∀ c q, H c = some (LamX.CodeO c q) → H' c = H c) (r : LamX.TabS H a q) : LamX.TabS H' a q := by
  obtain ⟨ps, h1, h2, h3⟩ := r
  refine ⟨ps, h.trans h1, h2, fun pos cv hc => ?_⟩
  obtain ⟨c, e1, e2⟩ := h3 pos cv hc
  exact ⟨c, e1, (hx c q e2).trans e2⟩
theorem ObR.at {K : PySem.W.Frag} {η : List Addr} {H H' : Hp} {o : Ob} {a : Addr} (h : H' a = H a) (hx : ∀ c u, Imm u → H c = some u → H' c = H c) (r : ObR K η H o a) : ObR K η H' o a := by
  cases o with
  | lst xs => obtain ⟨z, us, e, p⟩ := r; exact ⟨z, us, h.trans e, p⟩
  | tup xs => obtain ⟨z, us, e, p⟩ := r; exact ⟨z, us, h.trans e, p⟩
  | frl xs =>
    obtain ⟨z, us, e, p⟩ := r
    refine ⟨z, us, ?_, p⟩
    rcases e with ⟨o, e⟩ | e
    · exact .inl ⟨o, h.trans e⟩
    · exact .inr e
  | dK xs => obtain ⟨z, us, e, p⟩ := r; exact ⟨z, us, h.trans e, p⟩
  | dT xs => obtain ⟨z, us, e, p⟩ := r; exact ⟨z, us, h.trans e, p⟩
  | fD xs => obtain ⟨z, us, ⟨o, e⟩, p⟩ := r; exact ⟨z, us, ⟨o, h.trans e⟩, p⟩
  | tab x q => exact ⟨r.1, TabS.at h (fun c q e => hx c _ (.inl ⟨c, q, rfl⟩) e) r.2⟩
  | dN xs =>
    obtain ⟨z, us, e, p, k⟩ := r
    refine ⟨z, us, h.trans e, p, fun x hx' => ?_⟩
    obtain ⟨c, h1, h2⟩ := k x hx'
    exact ⟨c, (hx _ _ (.inr ⟨_, rfl⟩) h1).trans h1, (hx _ _ (.inr ⟨_, rfl⟩) h2).trans h2⟩
theorem ObR.some {K : PySem.W.Frag} {η : List Addr} {H : Hp} {o : Ob} {a : Addr} (r : ObR K η H o a) (f : isFrl o = false) : H a ≠ none := by
  cases o with
  | lst xs => obtain ⟨z, us, e, p⟩ := r; rw [e]; exact fun h => nomatch h
  | tup xs => obtain ⟨z, us, e, p⟩ := r; rw [e]; exact fun h => nomatch h
  | frl xs => exact nomatch f
  | dK xs => obtain ⟨z, us, e, p⟩ := r; rw [e]; exact fun h => nomatch h
  | dT xs => obtain ⟨z, us, e, p⟩ := r; rw [e]; exact fun h => nomatch h
  | fD xs => obtain ⟨z, us, ⟨o, e⟩, p⟩ := r; rw [e]; exact fun h => nomatch h
  | tab x q => obtain ⟨_, ps, e, _⟩ := r; rw [e]; exact fun h => nomatch h
  | dN xs => obtain ⟨z, us, e, _⟩ := r; rw [e]; exact fun h => nomatch h
theorem ObR.K {K : PySem.W.Frag} {η : List Addr} {H H' : Hp} {xs : List V} {a : Addr} (n : H a = none) (r : ObR K η H (.frl xs) a) : ObR K η H' (.frl xs) a := by
  obtain ⟨z, us, e, p⟩ := r
  refine ⟨z, us, .inr ?_, p⟩
  rcases e with ⟨o, e⟩ | e
  · rw [n] at e; cases e
  · exact e
variable {K : PySem.W.Frag} {η : List Addr} {S : Sto} {H : Hp}
theorem mem_drop1 {η : List Addr} {a : Addr} : a ∈ η.drop 1 ↔ ∃ n : Nat, 0 < n ∧ η[n]? = some a := by
  rw [List.mem_iff_getElem?]
  constructor
  · rintro ⟨i, h⟩
    rw [List.getElem?_drop] at h
    exact ⟨1 + i, by omega, h⟩
  · rintro ⟨n, h, e⟩
    exact ⟨n - 1, by rw [List.getElem?_drop, show 1 + (n - 1) = n by omega]; exact e⟩
theorem Rel.obj (r : Rel K η S H) {n : Nat} {a : Addr} (e : η[n]? = some a) : ∃ o, S[n]? = some o ∧ ObR K η H o a := by
  have hn : n < S.length := by rw [← r.len]; exact (List.getElem?_eq_some_iff.mp e).1
  exact ⟨S[n], List.getElem?_eq_getElem hn, r.ob n a _ e (List.getElem?_eq_getElem hn)⟩
/-- what the store owns stands in the heap -/
theorem Rel.there (r : Rel K η S H) {a : Addr} (h : a ∈ η.drop 1) : H a ≠ none := by
  obtain ⟨n, hn, e⟩ := mem_drop1.mp h
  obtain ⟨o, q, x⟩ := r.obj e
  refine x.some ?_
  cases hf : isFrl o with
  | false => rfl
  | true => exact absurd ((r.fz n o q).mp hf) (by omega)
theorem Rel.off (r : Rel K η S H) {a : Addr} (h : H a = none) : a ∉ η.drop 1 := fun m => r.there m h
/-- an object of the heap that the store does not own is written -/
theorem codeO_none {H : Hp} {p : Addr} (hp : H p = none) : ∀ u, Imm u → H p ≠ some u := fun q _ e => by rw [hp] at e; cases e
theorem imm_of {H : Hp} {p : Addr} {o : HO} (hp : H p = some o) (h1 : ∀ c q, o ≠ LamX.CodeO c q) (h2 : ∀ xs, o ≠ .tup xs) : ∀ u, Imm u → H p ≠ some u := fun u i e => by
  rw [hp] at e
  injection e with e
  rcases i with ⟨c, q, i⟩ | ⟨xs, i⟩
  · exact h1 c q (e.trans i)
  · exact h2 xs (e.trans i)
theorem imm_lst {H : Hp} {p : Addr} {us : List V} (hp : H p = some (.lst us)) : ∀ u, Imm u → H p ≠ some u := imm_of hp (fun c q z => by unfold LamX.CodeO at z; cases z) (fun _ z => by cases z)
theorem imm_dK {H : Hp} {p : Addr} {us : List (Key × V)} (hp : H p = some (.dK us)) : ∀ u, Imm u → H p ≠ some u := imm_of hp (fun c q z => by unfold LamX.CodeO at z; cases z) (fun _ z => by cases z)
theorem Rel.other (r : Rel K η S H) {p : Addr} (hp : p ∉ η.drop 1) (h0 : ∀ o us, H p ≠ some (.frz o us)) (u : HO) (hx : ∀ u, Imm u → H p ≠ some u) : Rel K η S (upd H p u) := by
  refine ⟨r.len, r.ne, fun n a o e q => ?_, r.fz, fun m n a h1 h2 e e' => (r.nd m n a h1 h2 e e').imp_right fun ⟨xs, z⟩ => ⟨xs, by rw [upd_ne (fun z' => hp (by rw [← z']; exact mem_drop1.mpr ⟨m, h1, e⟩))]; exact z⟩⟩
  have x := r.ob n a o e q
  by_cases h : a = p
  · subst h
    by_cases hn : n = 0
    · have hf := (r.fz n o q).mpr hn
      cases o with
      | frl xs =>
        obtain ⟨z, us, e2, p2⟩ := x
        refine ⟨z, us, .inr ?_, p2⟩
        rcases e2 with ⟨o, e2⟩ | e2
        · exact absurd e2 (h0 _ _)
        · exact e2
      | _ => cases hf
    · exact absurd (mem_drop1.mpr ⟨n, by omega, e⟩) hp
  · exact x.at (upd_ne h) (fun c q i e => upd_ne (fun z => hx q i (by rw [← z]; exact e)))
/-- an object of the heap that the store does not know -/
theorem Rel.side (r : Rel K η S H) {p : Addr} (hp : H p = none) (u : HO) : Rel K η S (upd H p u) := r.other (r.off hp) (fun o us e => by rw [hp] at e; cases e) u (codeO_none hp)
theorem Ext.side {p : Addr} (hp : H p = none) (u : HO) : Ext η H η (upd H p u) :=
  ⟨List.prefix_refl _, fun b o h n _ => ⟨by rw [upd_ne (ne_of_none h hp)]; exact h, n⟩, fun b o u h => by rw [upd_ne (ne_of_none h hp)]; exact h⟩
/-- an object of the heap is taken into the store -/
theorem Rel.add (r : Rel K η S H) {p : Addr} (hp : p ∉ η.drop 1) {o : Ob} (h : ObR K (η ++ [p]) H o p) (hf : isFrl o = false) : Rel K (η ++ [p]) (S ++ [o]) H := by
  have lt : ∀ {a : Addr} (m : Nat), (η ++ [p])[m]? = some a → (m < η.length ∧ η[m]? = some a) ∨ (m = η.length ∧ a = p) := fun {a} m e => by
    by_cases hm : m < η.length
    · rw [List.getElem?_append_left hm] at e
      exact .inl ⟨hm, e⟩
    · have := (List.getElem?_eq_some_iff.mp e).1
      simp at this
      have hm' : m = η.length := by omega
      subst hm'
      rw [List.getElem?_append_right (Nat.le_refl _)] at e
      simp at e
      exact .inr ⟨rfl, e.symm⟩
  refine ⟨by simp [r.len], by simp, fun n a o' e q => ?_, fun n o' q => ?_, fun m n a h1 h2 e e' => ?_⟩
  · rcases lt n e with ⟨hn, e⟩ | ⟨rfl, rfl⟩
    · rw [List.getElem?_append_left (by rw [← r.len]; exact hn)] at q
      exact (r.ob n a o' e q).mono (List.prefix_append _ _)
    · rw [r.len, List.getElem?_append_right (Nat.le_refl _)] at q
      simp at q
      subst q
      exact h
  · by_cases hn : n < S.length
    · rw [List.getElem?_append_left hn] at q
      exact r.fz n o' q
    · have := (List.getElem?_eq_some_iff.mp q).1
      simp at this
      have hm' : n = S.length := by omega
      subst hm'
      rw [List.getElem?_append_right (Nat.le_refl _)] at q
      simp at q
      subst q
      have := r.ne
      constructor
      · intro z; rw [hf] at z; cases z
      · intro z; omega
  · rcases lt m e with ⟨hm, e1⟩ | ⟨hm, ea⟩
    · rcases lt n e' with ⟨hn, e2⟩ | ⟨hn, ea⟩
      · exact r.nd m n a h1 h2 e1 e2
      · exact absurd (mem_drop1.mpr ⟨m, h1, e1⟩) (by rw [ea]; exact hp)
    · rcases lt n e' with ⟨hn, e2⟩ | ⟨hn, _⟩
      · exact absurd (mem_drop1.mpr ⟨n, h2, e2⟩) (by rw [ea]; exact hp)
      · exact .inl (by omega)
theorem Rel.new (r : Rel K η S H) {p : Addr} (hp : H p = none) {o : Ob} {u : HO} (h : ObR K (η ++ [p]) (upd H p u) o p) (hf : isFrl o = false) : Rel K (η ++ [p]) (S ++ [o]) (upd H p u) :=
  (r.side hp u).add (r.off hp) h hf
theorem Ext.add {p : Addr} (r : Rel K η S H) {η0 : List Addr} {H0 : Hp} (e : Ext η0 H0 η H) (hp : H0 p = none) : Ext η0 H0 (η ++ [p]) H :=
  ⟨e.1.trans (List.prefix_append _ _), fun b o h n t => ⟨(e.2.1 b o h n t).1, fun hm => by
    obtain ⟨k, hk, q⟩ := mem_drop1.mp hm
    by_cases hkl : k < η.length
    · rw [List.getElem?_append_left hkl] at q
      exact (e.2.1 b o h n t).2 (mem_drop1.mpr ⟨k, hk, q⟩)
    · have hb : b = p := by
        rw [List.getElem?_append_right (by omega)] at q
        have := List.mem_of_getElem? q
        simpa using this
      subst hb; rw [hp] at h; cases h⟩, e.2.2⟩
theorem Ext.upd {p : Addr} {η0 : List Addr} {H0 : Hp} (e : Ext η0 H0 η H) (hp : H0 p = none) (u : HO) : Ext η0 H0 η (upd H p u) :=
  ⟨e.1, fun b o h n t => ⟨by rw [upd_ne (ne_of_none h hp)]; exact (e.2.1 b o h n t).1, (e.2.1 b o h n t).2⟩, fun b o u h => by rw [upd_ne (ne_of_none h hp)]; exact e.2.2 b o u h⟩
/-- a tuple of the heap gets one more name -/
theorem Ext.addT {p : Addr} {us : List V} (hp : H p = some (.tup us)) : Ext η H (η ++ [p]) H :=
  ⟨List.prefix_append _ _, fun b o h n t => ⟨h, fun hm => by
    obtain ⟨k, hk, q⟩ := mem_drop1.mp hm
    by_cases hkl : k < η.length
    · rw [List.getElem?_append_left hkl] at q
      exact n (mem_drop1.mpr ⟨k, hk, q⟩)
    · have hb : b = p := by
        rw [List.getElem?_append_right (by omega)] at q
        have := List.mem_of_getElem? q
        simpa using this
      subst hb; rw [hp] at h; cases h; cases t⟩, fun _ _ _ h => h⟩
theorem Rel.addT (r : Rel K η S H) {p : Addr} {us vs : List V} (hp : H p = some (.tup us)) (h : VsR η vs us) (hl : vs.length ≤ sizeLine) : Rel K (η ++ [p]) (S ++ [.tup vs]) H := by
  have lt : ∀ {a : Addr} (m : Nat), (η ++ [p])[m]? = some a → (m < η.length ∧ η[m]? = some a) ∨ (m = η.length ∧ a = p) := fun {a} m e => by
    by_cases hm : m < η.length
    · rw [List.getElem?_append_left hm] at e
      exact .inl ⟨hm, e⟩
    · have := (List.getElem?_eq_some_iff.mp e).1
      simp at this
      have hm' : m = η.length := by omega
      subst hm'
      rw [List.getElem?_append_right (Nat.le_refl _)] at e
      simp at e
      exact .inr ⟨rfl, e.symm⟩
  refine ⟨by simp [r.len], by simp, fun n a o' e q => ?_, fun n o' q => ?_, fun m n a h1 h2 e e' => ?_⟩
  · rcases lt n e with ⟨hn, e⟩ | ⟨rfl, rfl⟩
    · rw [List.getElem?_append_left (by rw [← r.len]; exact hn)] at q
      exact (r.ob n a o' e q).mono (List.prefix_append _ _)
    · rw [r.len, List.getElem?_append_right (Nat.le_refl _)] at q
      simp at q
      subst q
      exact ⟨hl, us, hp, h.mono (List.prefix_append _ _)⟩
  · by_cases hn : n < S.length
    · rw [List.getElem?_append_left hn] at q
      exact r.fz n o' q
    · have := (List.getElem?_eq_some_iff.mp q).1
      simp at this
      have hm' : n = S.length := by omega
      subst hm'
      rw [List.getElem?_append_right (Nat.le_refl _)] at q
      simp at q
      subst q
      have := r.ne
      constructor
      · intro z; cases z
      · intro z; omega
  · rcases lt m e with ⟨hm, e1⟩ | ⟨hm, ea⟩
    · rcases lt n e' with ⟨hn, e2⟩ | ⟨hn, ea⟩
      · exact r.nd m n a h1 h2 e1 e2
      · exact .inr ⟨us, by rw [ea]; exact hp⟩
    · exact .inr ⟨us, by rw [ea]; exact hp⟩
theorem Ext.new (r : Rel K η S H) {p : Addr} (hp : H p = none) (u : HO) : Ext η H (η ++ [p]) (L2.upd H p u) := Ext.add (r.side hp u) (Ext.side hp u) hp
theorem VR.new {p : Addr} (r : Rel K η S H) : VR (η ++ [p]) (.ref S.length) (.ref p) := ⟨p, by rw [← r.len]; simp, rfl⟩
/-- an object is written -/
theorem Rel.set (r : Rel K η S H) {n : Nat} {p : Addr} {o o' : Ob} {u : HO} (hn : η[n]? = some p) (ho : S[n]? = some o) (f : isFrl o = false) (h : ObR K η (upd H p u) o' p) (f' : isFrl o' = false) (g : isTup o = false := by rfl) : Rel K η (S.set n o') (upd H p u) := by
  have y := r.ob n p o hn ho
  have nt : ∀ xs, H p ≠ some (.tup xs) := fun xs z => by
    cases o with
    | lst xs => obtain ⟨_, us, e2, _⟩ := y; rw [z] at e2; cases e2
    | tup xs => cases g
    | frl xs => cases f
    | dK xs => obtain ⟨_, us, e2, _⟩ := y; rw [z] at e2; cases e2
    | dT xs => obtain ⟨_, us, e2, _⟩ := y; rw [z] at e2; cases e2
    | fD xs => obtain ⟨_, us, ⟨_, e2⟩, _⟩ := y; rw [z] at e2; cases e2
    | tab xs q => obtain ⟨_, ps, e2, _⟩ := y; rw [z] at e2; cases e2
    | dN xs => obtain ⟨_, us, e2, _⟩ := y; rw [z] at e2; cases e2
  have nx : ∀ u, Imm u → H p ≠ some u := fun u i z => by
    rcases i with ⟨c, q, rfl⟩ | ⟨xs, rfl⟩
    · cases o with
      | lst xs => obtain ⟨_, us, e2, _⟩ := y; unfold LamX.CodeO at z; rw [z] at e2; cases e2
      | tup xs => cases g
      | frl xs => cases f
      | dK xs => obtain ⟨_, us, e2, _⟩ := y; unfold LamX.CodeO at z; rw [z] at e2; cases e2
      | dT xs => obtain ⟨_, us, e2, _⟩ := y; unfold LamX.CodeO at z; rw [z] at e2; cases e2
      | fD xs => obtain ⟨_, us, ⟨_, e2⟩, _⟩ := y; unfold LamX.CodeO at z; rw [z] at e2; cases e2
      | tab xs q => obtain ⟨_, ps, e2, _⟩ := y; unfold LamX.CodeO at z; rw [z] at e2; cases e2
      | dN xs =>
        obtain ⟨_, us, e2, _⟩ := y
        rw [z] at e2
        injection e2 with e2
        exact codeO_ne_dn e2
    · exact nt xs z
  have hnl : n < S.length := (List.getElem?_eq_some_iff.mp ho).1
  have h0 : 0 < n := by
    cases n with
    | zero => have := (r.fz 0 o ho).mpr rfl; rw [f] at this; cases this
    | succ n => omega
  refine ⟨by simp [r.len], by simpa using r.ne, fun m a o2 e q => ?_, fun m o2 q => ?_, fun m k a h1 h2 e e' => (r.nd m k a h1 h2 e e').imp_right fun ⟨xs, z⟩ => ⟨xs, by rw [upd_ne (fun z' => nt xs (by rw [← z']; exact z))]; exact z⟩⟩
  · by_cases hm : m = n
    · subst hm
      rw [List.getElem?_set_self hnl] at q
      rw [hn] at e
      cases e; cases q
      exact h
    · rw [List.getElem?_set_ne (Ne.symm hm)] at q
      have x := r.ob m a o2 e q
      by_cases ha : a = p
      · subst ha
        by_cases hm0 : m = 0
        · have hf := (r.fz m o2 q).mpr hm0
          cases o2 with
          | frl xs =>
            obtain ⟨z, us, e1, p1⟩ := x
            refine ⟨z, us, .inr ?_, p1⟩
            rcases e1 with ⟨ob, e1⟩ | e1
            · exfalso
              cases o with
              | lst xs => obtain ⟨_, us, e2, _⟩ := y; rw [e1] at e2; cases e2
              | tup xs => obtain ⟨_, us, e2, _⟩ := y; rw [e1] at e2; cases e2
              | frl xs => cases f
              | dK xs => obtain ⟨_, us, e2, _⟩ := y; rw [e1] at e2; cases e2
              | dT xs => obtain ⟨_, us, e2, _⟩ := y; rw [e1] at e2; cases e2
              | fD xs => obtain ⟨_, us, ⟨_, e2⟩, _⟩ := y; rw [e1] at e2; cases e2
              | tab xs q => obtain ⟨_, ps, e2, _⟩ := y; rw [e1] at e2; cases e2
              | dN xs => obtain ⟨_, us, e2, _⟩ := y; rw [e1] at e2; cases e2
            · exact e1
          | _ => cases hf
        · rcases r.nd m n a (by omega) h0 e hn with z | ⟨xs, z⟩
          · exact absurd z hm
          · exact absurd z (nt xs)
      · exact x.at (upd_ne ha) (fun c q i e => upd_ne (fun z => nx q i (by rw [← z]; exact e)))
  · by_cases hm : m = n
    · subst hm
      rw [List.getElem?_set_self hnl] at q
      cases q
      constructor
      · intro z; rw [f'] at z; cases z
      · intro z; omega
    · rw [List.getElem?_set_ne (Ne.symm hm)] at q
      exact r.fz m o2 q
theorem Rel.pos (r : Rel K η S H) {n : Nat} {o : Ob} (ho : S[n]? = some o) (f : isFrl o = false) : 0 < n := by
  cases n with
  | zero => have := (r.fz 0 o ho).mpr rfl; rw [f] at this; cases this
  | succ n => omega
theorem Ext.set (r : Rel K η S H) {n : Nat} {p : Addr} {o : Ob} {u : HO} (hn : η[n]? = some p) (ho : S[n]? = some o) (f : isFrl o = false) (g : isFD o = false := by rfl) : Ext η H η (L2.upd H p u) :=
  ⟨List.prefix_refl _, fun b o h nb _ => ⟨by
    rw [upd_ne (fun e => nb (by rw [e]; exact mem_drop1.mpr ⟨n, r.pos ho f, hn⟩))]; exact h, nb⟩, fun b o' u' h => by
    rw [upd_ne (fun e => ?_)]; exact h
    subst e
    have y := r.ob n b o hn ho
    cases o with
    | lst xs => obtain ⟨_, us, e2, _⟩ := y; rw [h] at e2; cases e2
    | tup xs => obtain ⟨_, us, e2, _⟩ := y; rw [h] at e2; cases e2
    | frl xs => cases f
    | dK xs => obtain ⟨_, us, e2, _⟩ := y; rw [h] at e2; cases e2
    | dT xs => obtain ⟨_, us, e2, _⟩ := y; rw [h] at e2; cases e2
    | fD xs => cases g
    | tab xs q => obtain ⟨_, ps, e2, _⟩ := y; rw [h] at e2; cases e2
    | dN xs => obtain ⟨_, us, e2, _⟩ := y; rw [h] at e2; cases e2⟩

/-! ### what is wanted of an outcome -/
section
variable {α β : Type} {rel : List Addr → α → β → Prop} {mg : Str → Option Value} {W : WX} {σ : St}
def Po (K : PySem.W.Frag) (mg : Str → Option Value) (W : WX) (σ : St) (rel : List Addr → α → β → Prop) (η : List Addr) (H : Hp) (r : R α) (Q : β → Hp → Prop) : Prop := match r with
  | .ok v S' => ∀ η' H' u, Ext η H η' H' → Rel K η' S' H' → rel η' v u → Q u H'
  | .exc c S' => ∀ η' H' C, Ext η H η' H' → Rel K η' S' H' → mg (Str.ofString c) = some (.ref C) → W (.ref C) none σ H'
  | .bad => False
theorem Po.mono {η1 : List Addr} {H1 : Hp} {r : R α} {Q : β → Hp → Prop} (e : Ext η H η1 H1) (p : Po K mg W σ rel η H r Q) : Po K mg W σ rel η1 H1 r Q := by
  cases r with
  | ok v S' => exact fun η' H' u e' r q => p η' H' u (e.trans e') r q
  | exc c S' => exact fun η' H' C e' r q => p η' H' C (e.trans e') r q
  | bad => exact p
theorem Po.imp {r : R α} {Q Q' : β → Hp → Prop} (p : Po K mg W σ rel η H r Q) (h : ∀ u H', Q u H' → Q' u H') : Po K mg W σ rel η H r Q' := by
  cases r with
  | ok v S' => exact fun η' H' u e' r q => h _ _ (p η' H' u e' r q)
  | exc c S' => exact p
  | bad => exact p
theorem Po.bind {γ δ : Type} {rel2 : List Addr → γ → δ → Prop} {r : R α} {f : α → Sto → R γ} {Q : δ → Hp → Prop} (p : Po K mg W σ rel2 η H (r.bind f) Q) :
    Po K mg W σ rel η H r (fun u H1 => ∃ η1 S1 v, Ext η H η1 H1 ∧ Rel K η1 S1 H1 ∧ rel η1 v u ∧ Po K mg W σ rel2 η1 H1 (f v S1) Q) := by
  cases r with
  | ok v S' => exact fun η' H' u e' r q => ⟨η', S', v, e', r, q, Po.mono e' p⟩
  | exc c S' => exact p
  | bad => exact p
/-- an answer that is there at once -/
theorem Po.now {v : α} {u : β} {Q : β → Hp → Prop} (p : Po K mg W σ rel η H (.ok v S) Q) (r : Rel K η S H) (q : rel η v u) : Q u H := p η H u (Ext.refl _ _) r q
end

/-! ### the judgements -/
section
variable (X : Cx) (W : WX)
def lfE (m : St → Sto → R V) : TE := fun σ H Q => ∃ η S σ0, Rel X.K η S H ∧ SR η σ0 σ ∧ Po X.K X.mg W σ VR η H (m σ0 S) Q
def lfT (m : St → Sto → R Bool) : TT := fun σ H Q => ∃ η S σ0, Rel X.K η S H ∧ SR η σ0 σ ∧ Po X.K X.mg W σ (fun _ a b => b = a) η H (m σ0 S) Q
def lfA (m : St → Sto → R (List V)) : TA := fun σ H Q => ∃ η S σ0, Rel X.K η S H ∧ SR η σ0 σ ∧ Po X.K X.mg W σ VsR η H (m σ0 S) Q
structure FE (e : Expr) (m : St → Sto → R V) : Prop where
  run : PE X e (lfE X W m)
structure FT (e : Expr) (m : St → Sto → R Bool) : Prop where
  run : PT X e (lfT X W m)
structure FW (e : Expr) (m : St → Sto → R Bool) : Prop where
  run : PW X e (lfT X W m)
structure FA (e : List Expr) (m : St → Sto → R (List V)) : Prop where
  run : PA X e (lfA X W m)
inductive Fl where
  | nx (σ : St)
  | rt (v : V)
  | bk (σ : St)
  | ct (σ : St)
  | rs (c : String) (σ : St)
def PoS (D : Ends) (η : List Addr) (H : Hp) (r : R Fl) : Prop := match r with
  | .ok (.nx σ) S' => ∀ η' H' σ1, Ext η H η' H' → Rel X.K η' S' H' → SR η' σ σ1 → D.nx σ1 H'
  | .ok (.rt v) S' => ∀ η' H' u, Ext η H η' H' → Rel X.K η' S' H' → VR η' v u → D.rt u H'
  | .ok (.bk σ) S' => ∀ η' H' σ1, Ext η H η' H' → Rel X.K η' S' H' → SR η' σ σ1 → D.bk σ1 H'
  | .ok (.ct σ) S' => ∀ η' H' σ1, Ext η H η' H' → Rel X.K η' S' H' → SR η' σ σ1 → D.ct σ1 H'
  | .ok (.rs c σ) S' => ∀ η' H' σ1 C, Ext η H η' H' → Rel X.K η' S' H' → SR η' σ σ1 → X.mg (Str.ofString c) = some (.ref C) → W (.ref C) none σ1 H'
  | .exc _ _ => False
  | .bad => False
def lfS (c : St → Sto → R Fl) : TS := fun D σ H => ∃ η S σ0, Rel X.K η S H ∧ SR η σ0 σ ∧ PoS X W D η H (c σ0 S)
structure FS (s : Stmt) (c : St → Sto → R Fl) : Prop where
  run : PS X s (lfS X W c)
structure FSs (s : List Stmt) (c : St → Sto → R Fl) : Prop where
  run : PSs X s (lfS X W c)
end
section
variable {X : Cx} {W : WX}
theorem PoS.mono {D : Ends} {η1 : List Addr} {H1 : Hp} {r : R Fl} (e : Ext η H η1 H1) (p : PoS X W D η H r) : PoS X W D η1 H1 r := by
  cases r with
  | ok f S' =>
    cases f with
    | nx σ => exact fun η' H' u e' r q => p η' H' u (e.trans e') r q
    | rt σ => exact fun η' H' u e' r q => p η' H' u (e.trans e') r q
    | bk σ => exact fun η' H' u e' r q => p η' H' u (e.trans e') r q
    | ct σ => exact fun η' H' u e' r q => p η' H' u (e.trans e') r q
    | rs c σ => exact fun η' H' u C e' r q => p η' H' u C (e.trans e') r q
  | exc c S' => exact p
  | bad => exact p
/-- an expression within a statement: what it raises leaves the statement -/
def sE {α : Type} (r : R α) (σ : St) (k : α → Sto → R Fl) : R Fl := match r with
  | .ok v S => k v S
  | .exc c S => .ok (.rs c σ) S
  | .bad => .bad
@[simp] theorem sE_ok {α : Type} (a : α) (S : Sto) (σ : St) (f : α → Sto → R Fl) : sE (R.ok a S) σ f = f a S := rfl
@[simp] theorem sE_exc {α : Type} (c : String) (S : Sto) (σ : St) (f : α → Sto → R Fl) : sE (R.exc c S : R α) σ f = .ok (.rs c σ) S := rfl
@[simp] theorem sE_bad {α : Type} (σ : St) (f : α → Sto → R Fl) : sE (R.bad : R α) σ f = .bad := rfl
theorem PoS.expr {α β : Type} {rel : List Addr → α → β → Prop} {D : Ends} {r : R α} {σ0 σ : St} {k : α → Sto → R Fl} (hs : SR η σ0 σ) (p : PoS X W D η H (sE r σ0 k)) :
    Po X.K X.mg W σ rel η H r (fun u H1 => ∃ η1 S1 v, Ext η H η1 H1 ∧ Rel X.K η1 S1 H1 ∧ rel η1 v u ∧ PoS X W D η1 H1 (k v S1)) := by
  cases r with
  | ok v S' => exact fun η' H' u e' r q => ⟨η', S', v, e', r, q, PoS.mono e' p⟩
  | exc c S' => exact fun η' H' C e' r q => p η' H' σ C e' r (hs.mono e'.1) q
  | bad => exact p
def sSq (a b : St → Sto → R Fl) : St → Sto → R Fl := fun σ S => match a σ S with
  | .ok (.nx σ1) S1 => b σ1 S1
  | r => r
end
theorem PE.wk {X : Cx} {e : Expr} {t t' : TE} (h : PE X e t) (w : ∀ σ H Q, t' σ H Q → t σ H Q) : PE X e t' := ⟨fun pins s σ H Q I q => h.run pins s σ H Q I (w _ _ _ q)⟩
theorem PT.wk {X : Cx} {e : Expr} {t t' : TT} (h : PT X e t) (w : ∀ σ H Q, t' σ H Q → t σ H Q) : PT X e t' := ⟨fun pins s σ H Q I q => h.run pins s σ H Q I (w _ _ _ q)⟩
theorem PW.wk {X : Cx} {e : Expr} {t t' : TT} (h : PW X e t) (w : ∀ σ H Q, t' σ H Q → t σ H Q) : PW X e t' := ⟨fun wh pins s σ H Q I q => h.run wh pins s σ H Q I (w _ _ _ q)⟩
theorem PA.wk {X : Cx} {e : List Expr} {t t' : TA} (h : PA X e t) (w : ∀ σ H Q, t' σ H Q → t σ H Q) : PA X e t' := ⟨fun p pins s σ H Q I q => h.run p pins s σ H Q I (w _ _ _ q)⟩
theorem PS.wk {X : Cx} {e : Stmt} {t t' : TS} (h : PS X e t) (w : ∀ D σ H, t' D σ H → t D σ H) : PS X e t' := ⟨fun pins s σ H D I q => h.run pins s σ H D I (w _ _ _ q)⟩
theorem PSs.wk {X : Cx} {e : List Stmt} {t t' : TS} (h : PSs X e t) (w : ∀ D σ H, t' D σ H → t D σ H) : PSs X e t' := ⟨fun pins s σ H D I q => h.run pins s σ H D I (w _ _ _ q)⟩

/-! ### expressions -/
section
variable {X : Cx} {W : WX} {a b e : Expr} {ma mb m : St → Sto → R V} {pos : Pos}
def eV (i : Nat) : St → Sto → R V := fun σ S => match σ[i]? with
  | some (some v) => .ok v S
  | _ => .bad
theorem fe_v (i : Nat) {x : Str} {pos : Pos} (hN : X.N[i]? = some x := by rfl) (hv : Vis X.env.scope x := by first | exact Or.inl rfl | exact Or.inr (Or.inl rfl) | exact Or.inr (Or.inr rfl)) (hd : (x == ("__debug__" : Str)) = false := by decide)
    (hcd : (x == ("__classdict__" : Str)) = false := by decide) : FE X W (.Name x pos) (eV i) := ⟨PE.wk (pe_var hN hv hd hcd) fun σ H Q h => by
  obtain ⟨η, S, σ0, hR, hS, p⟩ := h
  unfold eV at p
  cases e : σ0[i]? with
  | none => rw [e] at p; exact p.elim
  | some o =>
    cases o with
    | none => rw [e] at p; exact p.elim
    | some v =>
      rw [e] at p
      obtain ⟨u, h1, h2⟩ := pget hS e
      cases u with
      | none => exact h2.elim
      | some u => exact ⟨u, h1, p.now hR h2⟩⟩
def eC (v : V) : St → Sto → R V := fun _ S => .ok v S
def closedV : V → Bool
  | .ref _ => false
  | _ => true
theorem VR.closed {v : V} (h : closedV v = true) : VR η v v := by
  cases v with
  | ref n => cases h
  | _ => rfl
theorem fe_c {v : V} (h : PE X e (tC v)) (hc : closedV v = true := by rfl) : FE X W e (eC v) := ⟨PE.wk h fun σ H Q h => by
  obtain ⟨η, S, σ0, hR, hS, p⟩ := h
  exact p.now hR (VR.closed hc)⟩
def OpM (X : Cx) (r : R2) (m : V → V → Sto → R V) : Prop := ∀ W σ η S H x y u v Q, Rel X.K η S H → VR η x u → VR η y v → Po X.K X.mg W σ VR η H (m x y S) Q → r u v H Q
theorem OpM.or {r r' : R2} {m : V → V → Sto → R V} (p : V → V → Sto → Bool) (h : OpM X r fun x y S => if p x y S then m x y S else .bad) (h' : OpM X r' fun x y S => if p x y S then .bad else m x y S) : OpM X (fun x y H Q => r x y H Q ∨ r' x y H Q) m := by
  intro W σ η S H x y u v Q hR hx hy q
  cases e : p x y S with
  | true => exact .inl (h W σ η S H x y u v Q hR hx hy (by dsimp only; rw [e]; exact q))
  | false => exact .inr (h' W σ η S H x y u v Q hR hx hy (by dsimp only; rw [e]; exact q))
theorem OpR.or {f : Value → Value → Sem Value} {r r' : R2} (h : OpR X f r) (h' : OpR X f r') : OpR X f (fun x y H Q => r x y H Q ∨ r' x y H Q) := by
  intro pins s σ H x y v u Q I rx ry q
  rcases q with q | q
  · exact h pins s σ H x y v u Q I rx ry q
  · exact h' pins s σ H x y v u Q I rx ry q
def eO (m : V → V → Sto → R V) (ma mb : St → Sto → R V) : St → Sto → R V := fun σ S => (ma σ S).bind fun x S1 => (mb σ S1).bind fun y S2 => m x y S2
theorem lf_bin {ma mb : St → Sto → R V} {r : R2} {m : V → V → Sto → R V} (hm : OpM X r m) {σ : St} {H : Hp} {Q : VK} (h : lfE X W (eO m ma mb) σ H Q) :
    lfE X W ma σ H fun x H1 => lfE X W mb σ H1 fun y H2 => r x y H2 Q := by
  obtain ⟨η, S, σ0, hR, hS, p⟩ := h
  refine ⟨η, S, σ0, hR, hS, (Po.bind (rel := VR) p).imp fun u H1 ⟨η1, S1, v, e1, hR1, r1, p1⟩ => ?_⟩
  refine ⟨η1, S1, σ0, hR1, hS.mono e1.1, (Po.bind (rel := VR) p1).imp fun u2 H2 ⟨η2, S2, v2, e2, hR2, r2, p2⟩ => ?_⟩
  exact hm W σ η2 S2 H2 v v2 u u2 Q hR2 (r1.mono e2.1) r2 p2
theorem fe_op {op : Operator} {r : R2} {m : V → V → Sto → R V} (ho : OpR X (binaryOp op) r) (hm : OpM X r m) (ha : FE X W a ma) (hb : FE X W b mb) : FE X W (.BinOp a op b pos) (eO m ma mb) :=
  ⟨PE.wk (pe_op ho ha.run hb.run) fun σ H Q h => lf_bin hm h⟩
theorem fe_cmp {op : CmpOp} {r : R2} {m : V → V → Sto → R V} (ho : OpR X (compareOp op) r) (hm : OpM X r m) (ha : FE X W a ma) (hb : FE X W b mb) (hk : behindInMarks op b = false := by first | exact nobehind _ (by decide) (by decide) | rfl) : FE X W (.Compare a [op] [b] pos) (eO m ma mb) :=
  ⟨PE.wk (pe_cmpR ho ha.run hb.run hk) fun σ H Q h => lf_bin hm h⟩
theorem fe_ix {r : R2} {m : V → V → Sto → R V} (hr : IxR X r) (hm : OpM X r m) (ha : FE X W a ma) (hb : FE X W b mb) (hs : PlainIx b := by intro _ _; rfl) : FE X W (.Subscript a b pos) (eO m ma mb) :=
  ⟨PE.wk (pe_ix hr ha.run hb.run hs) fun σ H Q h => lf_bin hm h⟩
def UnM (X : Cx) (r : V → Hp → VK → Prop) (m : V → Sto → R V) : Prop := ∀ W σ η S H x u Q, Rel X.K η S H → VR η x u → Po X.K X.mg W σ VR η H (m x S) Q → r u H Q
def eU (m : V → Sto → R V) (ma : St → Sto → R V) : St → Sto → R V := fun σ S => (ma σ S).bind fun x S1 => m x S1
theorem fe_un {op : UnaryOp} {r : V → Hp → VK → Prop} {m : V → Sto → R V} (ho : UnR X (unaryOp op) r) (hm : UnM X r m) (ha : FE X W a ma) : FE X W (.UnaryOp op a pos) (eU m ma) :=
  ⟨PE.wk (pe_un ho ha.run) fun σ H Q h => by
    obtain ⟨η, S, σ0, hR, hS, p⟩ := h
    refine ⟨η, S, σ0, hR, hS, (Po.bind (rel := VR) p).imp fun u H1 ⟨η1, S1, v, e1, hR1, r1, p1⟩ => ?_⟩
    exact hm W σ η1 S1 H1 v u Q hR1 r1 p1⟩
/-! arguments, displays -/
def aNil : St → Sto → R (List V) := fun _ S => .ok [] S
def aCons (ma : St → Sto → R V) (mr : St → Sto → R (List V)) : St → Sto → R (List V) := fun σ S => (ma σ S).bind fun x S1 => (mr σ S1).bind fun xs S2 => .ok (x :: xs) S2
theorem fa_nil : FA X W [] aNil := ⟨PA.wk pa_nil fun σ H Q h => by
  obtain ⟨η, S, σ0, hR, hS, p⟩ := h
  exact p.now hR .nil⟩
theorem fa_cons {es : List Expr} {mr : St → Sto → R (List V)} (ha : FE X W e ma) (hr : FA X W es mr) (hs : starEach (e :: es) X.env = (false, eval e X.env) :: starEach es X.env := by rfl) : FA X W (e :: es) (aCons ma mr) :=
  ⟨PA.wk (pa_cons ha.run hr.run hs) fun σ H Q h => by
    obtain ⟨η, S, σ0, hR, hS, p⟩ := h
    refine ⟨η, S, σ0, hR, hS, (Po.bind (rel := VR) p).imp fun u H1 ⟨η1, S1, v, e1, hR1, r1, p1⟩ => ?_⟩
    refine ⟨η1, S1, σ0, hR1, hS.mono e1.1, (Po.bind (rel := VsR) p1).imp fun u2 H2 ⟨η2, S2, v2, e2, hR2, r2, p2⟩ => ?_⟩
    exact p2.now hR2 (.cons (r1.mono e2.1) r2)⟩
def alloc (o : Ob) (S : Sto) : R V := .ok (.ref S.length) (S ++ [o])
theorem Po.lst {σ : St} {xs us : List V} {Q : VK} (hR : Rel X.K η S H) (r : VsR η xs us) (hl : xs.length ≤ sizeLine) (p : Po X.K X.mg W σ VR η H (alloc (.lst xs) S) Q) : ∀ q, H q = none → Q (.ref q) (upd H q (.lst us)) := fun q hq =>
  p (η ++ [q]) _ _ (Ext.new hR hq _) (hR.new hq (o := .lst xs) ⟨hl, us, upd_same, r.mono (List.prefix_append _ _)⟩ rfl) (VR.new hR)
theorem Po.tup {σ : St} {xs us : List V} {Q : VK} (hR : Rel X.K η S H) (r : VsR η xs us) (hl : xs.length ≤ sizeLine) (p : Po X.K X.mg W σ VR η H (alloc (.tup xs) S) Q) : ∀ q, H q = none → Q (.ref q) (upd H q (.tup us)) := fun q hq =>
  p (η ++ [q]) _ _ (Ext.new hR hq _) (hR.new hq (o := .tup xs) ⟨hl, us, upd_same, r.mono (List.prefix_append _ _)⟩ rfl) (VR.new hR)
def lim : Nat := 16777216
theorem lim_eq : lim = sizeLine := rfl
def eLst (mr : St → Sto → R (List V)) : St → Sto → R V := fun σ S => (mr σ S).bind fun xs S1 => if xs.length ≤ lim then alloc (.lst xs) S1 else .bad
def eTup (mr : St → Sto → R (List V)) : St → Sto → R V := fun σ S => (mr σ S).bind fun xs S1 => if xs.length ≤ lim then alloc (.tup xs) S1 else .bad
theorem fe_lst {es : List Expr} {mr : St → Sto → R (List V)} (h : FA X W es mr) : FE X W (.List es pos) (eLst mr) := ⟨PE.wk (pe_lst h.run) fun σ H Q h => by
  obtain ⟨η, S, σ0, hR, hS, p⟩ := h
  refine ⟨η, S, σ0, hR, hS, (Po.bind (rel := VsR) p).imp fun u H1 ⟨η1, S1, v, e1, hR1, r1, p1⟩ => ?_⟩
  by_cases hl : v.length ≤ lim
  · rw [if_pos hl] at p1
    exact ⟨by rw [← r1.length]; exact hl, p1.lst hR1 r1 hl⟩
  · rw [if_neg hl] at p1; exact p1.elim⟩
theorem fe_tup {es : List Expr} {mr : St → Sto → R (List V)} {x1} (h : FA X W es mr) : FE X W (.Tuple es x1 pos) (eTup mr) := ⟨PE.wk (pe_tup h.run) fun σ H Q h => by
  obtain ⟨η, S, σ0, hR, hS, p⟩ := h
  refine ⟨η, S, σ0, hR, hS, (Po.bind (rel := VsR) p).imp fun u H1 ⟨η1, S1, v, e1, hR1, r1, p1⟩ => ?_⟩
  by_cases hl : v.length ≤ lim
  · rw [if_pos hl] at p1
    exact ⟨by rw [← r1.length]; exact hl, p1.tup hR1 r1 hl⟩
  · rw [if_neg hl] at p1; exact p1.elim⟩
/-! built-ins by name, defs -/
def CallM (X : Cx) (r : List V → Hp → VK → Prop) (m : List V → Sto → R V) : Prop := ∀ W σ η S H xs us Q, Rel X.K η S H → VsR η xs us → Po X.K X.mg W σ VR η H (m xs S) Q → r us H Q
theorem CallR.or {f : Value} {r r' : List V → Hp → VK → Prop} (h : CallR X f r) (h' : CallR X f r') : CallR X f (fun xs H Q => r xs H Q ∨ r' xs H Q) := by
  intro pins s σ H xs us Q I rs q
  rcases q with q | q
  · exact h pins s σ H xs us Q I rs q
  · exact h' pins s σ H xs us Q I rs q
theorem CallM.or {r r' : List V → Hp → VK → Prop} {m : List V → Sto → R V} (p : List V → Sto → Bool) (h : CallM X r fun x S => if p x S then m x S else .bad) (h' : CallM X r' fun x S => if p x S then .bad else m x S) : CallM X (fun x H Q => r x H Q ∨ r' x H Q) m := by
  intro W σ η S H x u Q hR hx q
  cases e : p x S with
  | true => exact .inl (h W σ η S H x u Q hR hx (by dsimp only; rw [e]; exact q))
  | false => exact .inr (h' W σ η S H x u Q hR hx (by dsimp only; rw [e]; exact q))
def eA (m : List V → Sto → R V) (ma : St → Sto → R (List V)) : St → Sto → R V := fun σ S => (ma σ S).bind m
theorem lf_args {ma : St → Sto → R (List V)} {r : List V → Hp → VK → Prop} {m : List V → Sto → R V} (hm : CallM X r m) {σ : St} {H : Hp} {Q : VK} (h : lfE X W (eA m ma) σ H Q) : lfA X W ma σ H fun xs H1 => r xs H1 Q := by
  obtain ⟨η, S, σ0, hR, hS, p⟩ := h
  refine ⟨η, S, σ0, hR, hS, (Po.bind (rel := VsR) p).imp fun u H1 ⟨η1, S1, v, e1, hR1, r1, p1⟩ => ?_⟩
  exact hm W σ η1 S1 H1 v u Q hR1 r1 p1
theorem fe_callB {x : Str} {p : Pos} {es : List Expr} {id : String} {r : List V → Hp → VK → Prop} {m : List V → Sto → R V} {mr : St → Sto → R (List V)} (hc : CallR X (.builtin id) r) (hm : CallM X r m) (hg : Gl X x) (hx : X.mg x = none) (hv : bootBuiltins x = some (.builtin id)) (ha : FA X W (e :: es) mr)
    (hn : x ≠ "__name__" := by decide) (hdb : (x == ("__debug__" : Str)) = false := by decide)
    (he : starEach (e :: es) X.env = (false, eval e X.env) :: starEach es X.env := by rfl) (hpl : (backTo pos (starEach es X.env)).any (·.1) = false := by rfl) : FE X W (.Call (.Name x p) (e :: es) [] pos) (eA m mr) :=
  ⟨PE.wk (pe_callB hc hg hx hv ha.run hn hdb he hpl) fun σ H Q h => lf_args hm h⟩
theorem fe_callTy {x : Str} {p : Pos} {es : List Expr} {id : String} {r : List V → Hp → VK → Prop} {m : List V → Sto → R V} {mr : St → Sto → R (List V)} (hc : CallR X (.type id) r) (hm : CallM X r m) (hg : Gl X x) (hx : X.mg x = none) (hv : bootBuiltins x = some (.type id)) (ha : FA X W (e :: es) mr)
    (hn : x ≠ "__name__" := by decide) (hdb : (x == ("__debug__" : Str)) = false := by decide)
    (he : starEach (e :: es) X.env = (false, eval e X.env) :: starEach es X.env := by rfl) (hpl : (backTo pos (starEach es X.env)).any (·.1) = false := by rfl) : FE X W (.Call (.Name x p) (e :: es) [] pos) (eA m mr) :=
  ⟨PE.wk (pe_callTy hc hg hx hv ha.run hn hdb he hpl) fun σ H Q h => lf_args hm h⟩
/-- a def's promise: what its functional reading says -/
def spM (K : PySem.W.Frag) (mg : Str → Option Value) (n : Nat) (m : List V → Sto → R V) : Sp := fun vs H Q E => vs.length = n ∧ ∃ η S vs0, Rel K η S H ∧ VsR η vs0 vs ∧ Po K mg (fun c d _ H => E c d H) [] VR η H (m vs0 S) Q
theorem fe_call {x : Str} {p : Pos} {es : List Expr} {k n : Nat} {f : Addr} {fd : FuncData} {ps : List Str} {m : List V → Sto → R V} {mr : St → Sto → R (List V)} (F : FnOk X.prog X.w X.K X.mg X.base (L2.CX X.prog X.w) k f fd ps (spM X.K X.mg n m)) (hr : Room k X.A) (hg : Gl X x)
    (hm : X.mg x = some (.ref f)) (hk : PySem.W.keepIn X.K (.ref f) = true) (hb : Binds X.K fd ps []) (tk : Takes X W) (ha : FA X W (e :: es) mr) (hl : (e :: es).length = n := by rfl) (hdb : (x == ("__debug__" : Str)) = false := by decide)
    (he : starEach (e :: es) X.env = (false, eval e X.env) :: starEach es X.env := by rfl) (hpl : (backTo pos (starEach es X.env)).any (·.1) = false := by rfl) : FE X W (.Call (.Name x p) (e :: es) [] pos) (eA (fun vs S => if vs.length = n then m vs S else .bad) mr) :=
  ⟨PE.wk (pe_callS F hr hg hm hk hb (passAt tk) ha.run hdb he hpl) fun σ H Q h => by
    obtain ⟨η, S, σ0, hR, hS, p⟩ := h
    refine ⟨η, S, σ0, hR, hS, (Po.bind (rel := VsR) p).imp fun u H1 ⟨η1, S1, v, e1, hR1, r1, p1⟩ => ?_⟩
    by_cases hv : v.length = n
    · rw [if_pos hv] at p1
      refine ⟨by rw [← r1.length]; exact hv, η1, S1, v, hR1, r1, ?_⟩
      cases e : m v S1 with
      | ok w S2 => rw [e] at p1; exact p1
      | exc c S2 => rw [e] at p1; exact p1
      | bad => rw [e] at p1; exact p1
    · rw [if_neg hv] at p1; exact p1.elim⟩
/-! methods of built-in types -/
def eM0 (T : V → Sto → Bool) (m : V → List V → Sto → R V) (mo : St → Sto → R V) : St → Sto → R V := fun σ S => (mo σ S).bind fun x S1 => if T x S1 then m x [] S1 else .bad
def eM (T : V → Sto → Bool) (m : V → List V → Sto → R V) (mo : St → Sto → R V) (mr : St → Sto → R (List V)) : St → Sto → R V := fun σ S => (mo σ S).bind fun x S1 => if T x S1 then (mr σ S1).bind fun xs S2 => m x xs S2 else .bad
def MtM (X : Cx) (r : V → List V → Hp → VK → Prop) (m : V → List V → Sto → R V) : Prop := ∀ W σ η S H x u xs us Q, Rel X.K η S H → VR η x u → VsR η xs us → Po X.K X.mg W σ VR η H (m x xs S) Q → r u us H Q
def TyM (X : Cx) (T : String) (t : V → Sto → Bool) : Prop := ∀ η S H x u, Rel X.K η S H → VR η x u → t x S = true → tyV X.K T u H
theorem fe_bm0 {o : Expr} {name : Str} {apos cpos : Pos} {T id : String} {r : V → List V → Hp → VK → Prop} {t : V → Sto → Bool} {m : V → List V → Sto → R V} {mo : St → Sto → R V} (pa : PlainAttrs T) (slot : Slot T name id) (hty : typeOf (.builtin id) = pure (.type "method_descriptor")) (hm : MtR X id r)
    (ht : TyM X T t) (hmm : MtM X r m) (ho : FE X W o mo) (hbase : attributeBase o name X.env (eval o X.env) = eval o X.env := by rfl) (hline : (apos.endLine == cpos.line) = true := by rfl) : FE X W (.Call (.Attribute o name apos) [] [] cpos) (eM0 t m mo) :=
  ⟨PE.wk (pe_bm0 pa slot hty hm ho.run hbase hline) fun σ H Q h => by
    obtain ⟨η, S, σ0, hR, hS, p⟩ := h
    refine ⟨η, S, σ0, hR, hS, (Po.bind (rel := VR) p).imp fun u H1 ⟨η1, S1, v, e1, hR1, r1, p1⟩ => ?_⟩
    cases e : t v S1 with
    | false => rw [e] at p1; exact p1.elim
    | true =>
      rw [e] at p1
      exact ⟨ht η1 S1 H1 v u hR1 r1 e, hmm W σ η1 S1 H1 v u [] [] Q hR1 r1 .nil p1⟩⟩
theorem fe_bm {o : Expr} {es : List Expr} {name : Str} {apos cpos : Pos} {T id : String} {r : V → List V → Hp → VK → Prop} {t : V → Sto → Bool} {m : V → List V → Sto → R V} {mo : St → Sto → R V} {mr : St → Sto → R (List V)} (pa : PlainAttrs T) (slot : Slot T name id) (hty : typeOf (.builtin id) = pure (.type "method_descriptor")) (hm : MtR X id r)
    (ht : TyM X T t) (hmm : MtM X r m) (ho : FE X W o mo) (ha : FA X W (e :: es) mr)
    (hbase : attributeBase o name X.env (eval o X.env) = eval o X.env := by rfl)
    (hfew : ((backTo cpos (starEach (e :: es) X.env)).all (fun x => !x.1) && (backToKw cpos (keywordEach [] X.env)).all (fun x => x.1.isSome)
      && decide ((e :: es).length + ([] : List Keyword).length + (if ([] : List Keyword).isEmpty then 0 else 1) < 30)) = true := by rfl)
    (hline : (apos.endLine == cpos.line) = true := by rfl) (hs : starEach (e :: es) X.env = (false, eval e X.env) :: starEach es X.env := by rfl) (hplain : (backTo cpos (starEach es X.env)).any (·.1) = false := by rfl) : FE X W (.Call (.Attribute o name apos) (e :: es) [] cpos) (eM t m mo mr) :=
  ⟨PE.wk (pe_bm pa slot hty hm ho.run ha.run hbase hfew hline hs hplain) fun σ H Q h => by
    obtain ⟨η, S, σ0, hR, hS, p⟩ := h
    refine ⟨η, S, σ0, hR, hS, (Po.bind (rel := VR) p).imp fun u H1 ⟨η1, S1, v, e1, hR1, r1, p1⟩ => ?_⟩
    cases e : t v S1 with
    | false => rw [e] at p1; exact p1.elim
    | true =>
      rw [e] at p1
      refine ⟨ht η1 S1 H1 v u hR1 r1 e, η1, S1, σ0, hR1, hS.mono e1.1, (Po.bind (rel := VsR) p1).imp fun us H2 ⟨η2, S2, vs, e2, hR2, r2, p2⟩ => ?_⟩
      exact hmm W σ η2 S2 H2 v u vs us Q hR2 (r1.mono e2.1) r2 p2⟩
/-! tests -/
def tV (m : St → Sto → R V) : St → Sto → R Bool := fun σ S => (m σ S).bind fun v S1 => match v with
  | .bl b => .ok b S1
  | _ => .bad
theorem ft_v (h : FE X W e m) (he : ∀ whole, isTrue e X.env whole = (do let v ← whole; standAt e.pos; holding [v] (truthy v)) := by intro _; rfl) : FT X W e (tV m) := ⟨PT.wk (pt_val h.run he) fun σ H Q h => by
  obtain ⟨η, S, σ0, hR, hS, p⟩ := h
  refine ⟨η, S, σ0, hR, hS, (Po.bind (rel := VR) p).imp fun u H1 ⟨η1, S1, v, e1, hR1, r1, p1⟩ => ?_⟩
  cases v with
  | bl c => exact ⟨c, r1, p1.now hR1 rfl⟩
  | _ => exact p1.elim⟩
variable {tA tB' : St → Sto → R Bool} {rest : List Expr}
def tAn (t u : St → Sto → R Bool) : St → Sto → R Bool := fun σ S => (t σ S).bind fun c S1 => if c = true then u σ S1 else .ok false S1
def tO (t u : St → Sto → R Bool) : St → Sto → R Bool := fun σ S => (t σ S).bind fun c S1 => if c = true then .ok true S1 else u σ S1
def tN (t : St → Sto → R Bool) : St → Sto → R Bool := fun σ S => (t σ S).bind fun c S1 => .ok (!c) S1
theorem fw_and1 (ha : FT X W a tA) : FW X W (.BoolOp .And [a] pos) tA := ⟨pw_and1 ha.run⟩
theorem fw_or1 (ha : FT X W a tA) : FW X W (.BoolOp .Or [a] pos) tA := ⟨pw_or1 ha.run⟩
theorem fw_and (ha : FT X W a tA) (hb : FW X W (.BoolOp .And (b :: rest) pos) tB') : FW X W (.BoolOp .And (a :: b :: rest) pos) (tAn tA tB') := ⟨PW.wk (pw_and ha.run hb.run) fun σ H Q h => by
  obtain ⟨η, S, σ0, hR, hS, p⟩ := h
  refine ⟨η, S, σ0, hR, hS, (Po.bind (rel := fun _ a b => b = a) p).imp fun u H1 ⟨η1, S1, v, e1, hR1, r1, p1⟩ => ?_⟩
  subst r1
  cases u with
  | true => exact ⟨η1, S1, σ0, hR1, hS.mono e1.1, p1⟩
  | false => exact p1.now hR1 rfl⟩
theorem fw_or (ha : FT X W a tA) (hb : FW X W (.BoolOp .Or (b :: rest) pos) tB') : FW X W (.BoolOp .Or (a :: b :: rest) pos) (tO tA tB') := ⟨PW.wk (pw_or ha.run hb.run) fun σ H Q h => by
  obtain ⟨η, S, σ0, hR, hS, p⟩ := h
  refine ⟨η, S, σ0, hR, hS, (Po.bind (rel := fun _ a b => b = a) p).imp fun u H1 ⟨η1, S1, v, e1, hR1, r1, p1⟩ => ?_⟩
  subst r1
  cases u with
  | true => exact p1.now hR1 rfl
  | false => exact ⟨η1, S1, σ0, hR1, hS.mono e1.1, p1⟩⟩
theorem FW.ft (h : FW X W e tA) : FT X W e tA := ⟨h.run.pt⟩
theorem ft_not (ha : FT X W a tA) : FT X W (.UnaryOp .Not a pos) (tN tA) := ⟨PT.wk (pt_not ha.run) fun σ H Q h => by
  obtain ⟨η, S, σ0, hR, hS, p⟩ := h
  refine ⟨η, S, σ0, hR, hS, (Po.bind (rel := fun _ a b => b = a) p).imp fun u H1 ⟨η1, S1, v, e1, hR1, r1, p1⟩ => ?_⟩
  subst r1
  exact p1.now hR1 rfl⟩
/-! and, or, not as values -/
def eAn (t u : St → Sto → R V) : St → Sto → R V := fun σ S => (t σ S).bind fun x S1 => match x with
  | .bl true => u σ S1
  | .bl false => .ok (.bl false) S1
  | _ => .bad
def eOr (t u : St → Sto → R V) : St → Sto → R V := fun σ S => (t σ S).bind fun x S1 => match x with
  | .bl true => .ok (.bl true) S1
  | .bl false => u σ S1
  | _ => .bad
def eNo (t : St → Sto → R V) : St → Sto → R V := fun σ S => (t σ S).bind fun x S1 => match x with
  | .bl c => .ok (.bl (!c)) S1
  | _ => .bad
theorem fe_one {op} (h : FE X W a ma) : FE X W (.BoolOp op [a] pos) ma := ⟨pe_one h.run⟩
theorem fe_and (ha : FE X W a ma) (hb : FE X W (.BoolOp .And (b :: rest) pos) mb) : FE X W (.BoolOp .And (a :: b :: rest) pos) (eAn ma mb) := ⟨PE.wk (pe_and ha.run hb.run) fun σ H Q h => by
  obtain ⟨η, S, σ0, hR, hS, p⟩ := h
  refine ⟨η, S, σ0, hR, hS, (Po.bind (rel := VR) p).imp fun u H1 ⟨η1, S1, v, e1, hR1, r1, p1⟩ => ?_⟩
  cases v with
  | bl c =>
    refine ⟨c, r1, ?_⟩
    cases c with
    | true => exact ⟨η1, S1, σ0, hR1, hS.mono e1.1, p1⟩
    | false => exact p1.now hR1 rfl
  | _ => exact p1.elim⟩
theorem fe_or (ha : FE X W a ma) (hb : FE X W (.BoolOp .Or (b :: rest) pos) mb) : FE X W (.BoolOp .Or (a :: b :: rest) pos) (eOr ma mb) := ⟨PE.wk (pe_or ha.run hb.run) fun σ H Q h => by
  obtain ⟨η, S, σ0, hR, hS, p⟩ := h
  refine ⟨η, S, σ0, hR, hS, (Po.bind (rel := VR) p).imp fun u H1 ⟨η1, S1, v, e1, hR1, r1, p1⟩ => ?_⟩
  cases v with
  | bl c =>
    refine ⟨c, r1, ?_⟩
    cases c with
    | true => exact p1.now hR1 rfl
    | false => exact ⟨η1, S1, σ0, hR1, hS.mono e1.1, p1⟩
  | _ => exact p1.elim⟩
theorem fe_not (ha : FE X W a ma) : FE X W (.UnaryOp .Not a pos) (eNo ma) := ⟨PE.wk (pe_not ha.run) fun σ H Q h => by
  obtain ⟨η, S, σ0, hR, hS, p⟩ := h
  refine ⟨η, S, σ0, hR, hS, (Po.bind (rel := VR) p).imp fun u H1 ⟨η1, S1, v, e1, hR1, r1, p1⟩ => ?_⟩
  cases v with
  | bl c => exact ⟨c, r1, p1.now hR1 rfl⟩
  | _ => exact p1.elim⟩
def eIf (t : St → Sto → R Bool) (ma mb : St → Sto → R V) : St → Sto → R V := fun σ S => (t σ S).bind fun c S1 => if c = true then ma σ S1 else mb σ S1
theorem fe_if {c : Expr} {t : St → Sto → R Bool} (hc : FT X W c t) (ha : FE X W a ma) (hb : FE X W b mb) : FE X W (.IfExp c a b pos) (eIf t ma mb) := ⟨PE.wk (pe_ifExp hc.run ha.run hb.run) fun σ H Q h => by
  obtain ⟨η, S, σ0, hR, hS, p⟩ := h
  refine ⟨η, S, σ0, hR, hS, (Po.bind (rel := fun _ a b => b = a) p).imp fun u H1 ⟨η1, S1, v, e1, hR1, r1, p1⟩ => ?_⟩
  subst r1
  cases u with
  | true => exact ⟨η1, S1, σ0, hR1, hS.mono e1.1, p1⟩
  | false => exact ⟨η1, S1, σ0, hR1, hS.mono e1.1, p1⟩⟩
/-- a < b < c -/
def eCh (m m' : V → V → Sto → R V) (ma mb mc : St → Sto → R V) : St → Sto → R V := fun σ S => (ma σ S).bind fun x S1 => (mb σ S1).bind fun y S2 => (m x y S2).bind fun z S3 => match z with
  | .bl true => (mc σ S3).bind fun w S4 => m' y w S4
  | .bl false => .ok (.bl false) S3
  | _ => .bad
theorem lf_ch {mc : St → Sto → R V} {r r' : R2} {m m' : V → V → Sto → R V} (hm : OpM X r m) (hm' : OpM X r' m') {σ : St} {H : Hp} {Q : VK} (h : lfE X W (eCh m m' ma mb mc) σ H Q) : tChain r r' (lfE X W ma) (lfE X W mb) (lfE X W mc) σ H Q := by
    obtain ⟨η, S, σ0, hR, hS, p⟩ := h
    refine ⟨η, S, σ0, hR, hS, (Po.bind (rel := VR) p).imp fun u H1 ⟨η1, S1, v, e1, hR1, r1, p1⟩ => ?_⟩
    refine ⟨η1, S1, σ0, hR1, hS.mono e1.1, (Po.bind (rel := VR) p1).imp fun u2 H2 ⟨η2, S2, v2, e2, hR2, r2, p2⟩ => ?_⟩
    refine hm W σ η2 S2 H2 v v2 u u2 _ hR2 (r1.mono e2.1) r2 ((Po.bind (rel := VR) p2).imp fun u3 H3 ⟨η3, S3, v3, e3, hR3, r3, p3⟩ => ?_)
    cases v3 with
    | bl k =>
      refine ⟨k, r3, ?_⟩
      cases k with
      | true =>
        refine ⟨η3, S3, σ0, hR3, hS.mono (e1.1.trans (e2.1.trans e3.1)), (Po.bind (rel := VR) p3).imp fun u4 H4 ⟨η4, S4, v4, e4, hR4, r4, p4⟩ => ?_⟩
        exact hm' W σ η4 S4 H4 v2 v4 u2 u4 Q hR4 (r2.mono (e3.1.trans e4.1)) r4 p4
      | false => exact p3.now hR3 rfl
    | _ => exact p3.elim
theorem fe_chain {c : Expr} {mc : St → Sto → R V} {op op' : CmpOp} {r r' : R2} {m m' : V → V → Sto → R V} (ho : OpR X (compareOp op) r) (hm : OpM X r m) (ho' : OpR X (compareOp op') r') (hm' : OpM X r' m') (ha : FE X W a ma) (hb : FE X W b mb) (hc : FE X W c mc) (hmk : lastMarks [op, op'] [b, c] = false := by with_unfolding_all rfl) : FE X W (.Compare a [op, op'] [b, c] pos) (eCh m m' ma mb mc) :=
  ⟨PE.wk (pe_chain ho ho' ha.run hb.run hc.run hmk) fun σ H Q h => lf_ch hm hm' h⟩
end
end Fx
/-! Fx: statements, loops, comprehensions, defs. -/
namespace Fx
open PySem PySem.Spec L2
open PyProof.Rows hiding St
variable {K : PySem.W.Frag} {η : List Addr} {S : Sto} {H : Hp}
section
variable {X : Cx} {W : WX} {e : Expr} {m : St → Sto → R V} {pos : Pos} {st : Stmt} {rest : List Stmt} {c c' : St → Sto → R Fl}
theorem PoS.now {D : Ends} {σ σ1 : St} (p : PoS X W D η H (.ok (.nx σ) S)) (r : Rel X.K η S H) (h : SR η σ σ1) : D.nx σ1 H := p η H σ1 (Ext.refl _ _) r h
/-- other ends -/
theorem PoS.conv {D D' : Ends} {r : R Fl} {k : Fl → Sto → R Fl} (p : PoS X W D η H (match r with | .ok f S' => k f S' | r => r))
    (h : ∀ f S' η' H', Ext η H η' H' → Rel X.K η' S' H' → PoS X W D η' H' (k f S') → PoS X W D' η' H' (.ok f S')) : PoS X W D' η H r := by
  cases r with
  | ok f S' =>
    cases f with
    | nx σ => exact fun η' H' σ1 e' r q => h _ S' η' H' e' r (PoS.mono e' p) η' H' σ1 (Ext.refl _ _) r q
    | rt σ => exact fun η' H' σ1 e' r q => h _ S' η' H' e' r (PoS.mono e' p) η' H' σ1 (Ext.refl _ _) r q
    | bk σ => exact fun η' H' σ1 e' r q => h _ S' η' H' e' r (PoS.mono e' p) η' H' σ1 (Ext.refl _ _) r q
    | ct σ => exact fun η' H' σ1 e' r q => h _ S' η' H' e' r (PoS.mono e' p) η' H' σ1 (Ext.refl _ _) r q
    | rs c σ => exact fun η' H' σ1 C e' r q => h _ S' η' H' e' r (PoS.mono e' p) η' H' σ1 C (Ext.refl _ _) r q
  | exc c S' => exact p
  | bad => exact p
def sNx : St → Sto → R Fl := fun σ S => .ok (.nx σ) S
theorem fss_nil : FSs X W [] sNx := ⟨PSs.wk pss_nil fun D σ H h => by
  obtain ⟨η, S, σ0, hR, hS, p⟩ := h
  exact p.now hR hS⟩
theorem fss_cons (h1 : FS X W st c) (h2 : FSs X W rest c') : FSs X W (st :: rest) (sSq c c') := ⟨PSs.wk (pss_cons h1.run h2.run) fun D σ H h => by
  obtain ⟨η, S, σ0, hR, hS, p⟩ := h
  refine ⟨η, S, σ0, hR, hS, PoS.conv (D := D) (k := fun f S' => match f with | .nx σ1 => c' σ1 S' | f => .ok f S') ?_ fun f S' η' H' e' r q => ?_⟩
  · unfold sSq at p
    cases hc : c σ0 S with
    | ok f S' => rw [hc] at p; cases f <;> exact p
    | exc c S' => rw [hc] at p; exact p
    | bad => rw [hc] at p; exact p
  · cases f with
    | nx σ1 => exact fun η2 H2 σ2 e2 r2 s2 => ⟨η2, S', σ1, r2, s2, PoS.mono e2 q⟩
    | rt v => exact q
    | bk σ => exact q
    | ct σ => exact q
    | rs c σ => exact q⟩
theorem fss_one (h1 : FS X W st c) : FSs X W [st] c := ⟨PSs.wk (pss_one h1.run) fun D σ H h => h⟩
theorem fs_pass : FS X W (.Pass pos) sNx := ⟨PS.wk ps_pass fun D σ H h => by
  obtain ⟨η, S, σ0, hR, hS, p⟩ := h
  exact p.now hR hS⟩
def sBk : St → Sto → R Fl := fun σ S => .ok (.bk σ) S
def sCt : St → Sto → R Fl := fun σ S => .ok (.ct σ) S
theorem fs_break : FS X W (.Break pos) sBk := ⟨PS.wk ps_break fun D σ H h => by
  obtain ⟨η, S, σ0, hR, hS, p⟩ := h
  exact p η H σ (Ext.refl _ _) hR hS⟩
theorem fs_continue : FS X W (.Continue pos) sCt := ⟨PS.wk ps_continue fun D σ H h => by
  obtain ⟨η, S, σ0, hR, hS, p⟩ := h
  exact p η H σ (Ext.refl _ _) hR hS⟩
def sRet (m : St → Sto → R V) : St → Sto → R Fl := fun σ S => sE (m σ S) σ fun v S1 => .ok (.rt v) S1
theorem fs_ret (h : FE X W e m) : FS X W (.Return (some e) pos) (sRet m) := ⟨PS.wk (ps_ret h.run) fun D σ H h => by
  obtain ⟨η, S, σ0, hR, hS, p⟩ := h
  refine ⟨η, S, σ0, hR, hS, (PoS.expr (rel := VR) hS p).imp fun u H1 ⟨η1, S1, v, e1, hR1, r1, p1⟩ => ?_⟩
  exact p1 η1 H1 u (Ext.refl _ _) hR1 r1⟩
def sRetN : St → Sto → R Fl := fun σ S => .ok (.rt .non) S
theorem fs_retN : FS X W (.Return none pos) sRetN := ⟨PS.wk ps_retN fun D σ H h => by
  obtain ⟨η, S, σ0, hR, hS, p⟩ := h
  exact p η H .non (Ext.refl _ _) hR rfl⟩
def sEx (m : St → Sto → R V) : St → Sto → R Fl := fun σ S => sE (m σ S) σ fun _ S1 => .ok (.nx σ) S1
theorem fs_expr (h : FE X W e m) (hs : swapsWith e none pos.line X.env = pure false := by rfl) : FS X W (.Expr e pos) (sEx m) := ⟨PS.wk (ps_expr h.run hs) fun D σ H h => by
  obtain ⟨η, S, σ0, hR, hS, p⟩ := h
  refine ⟨η, S, σ0, hR, hS, (PoS.expr (rel := VR) hS p).imp fun u H1 ⟨η1, S1, v, e1, hR1, r1, p1⟩ => ?_⟩
  exact p1.now hR1 (hS.mono e1.1)⟩
def sIf (t : St → Sto → R Bool) (a b : St → Sto → R Fl) : St → Sto → R Fl := fun σ S => sE (t σ S) σ fun k S1 => if k = true then a σ S1 else b σ S1
theorem fs_if {cnd : Expr} {as bs : List Stmt} {t : St → Sto → R Bool} {a b : St → Sto → R Fl} (hc : FT X W cnd t) (ha : FSs X W as a) (hb : FSs X W bs b) : FS X W (.If cnd as bs pos) (sIf t a b) := ⟨PS.wk (ps_if hc.run ha.run hb.run) fun D σ H h => by
  obtain ⟨η, S, σ0, hR, hS, p⟩ := h
  refine ⟨η, S, σ0, hR, hS, (PoS.expr (rel := fun _ a b => b = a) hS p).imp fun u H1 ⟨η1, S1, v, e1, hR1, r1, p1⟩ => ?_⟩
  subst r1
  cases u with
  | true => exact ⟨η1, S1, σ0, hR1, hS.mono e1.1, p1⟩
  | false => exact ⟨η1, S1, σ0, hR1, hS.mono e1.1, p1⟩⟩
theorem SR.set {σ σ1 : St} {v u : V} (i : Nat) (h : SR η σ σ1) (r : VR η v u) : SR η (σ.set i (some v)) (σ1.set i (some u)) := pset (F := OR η) (x := some v) (u := some u) r i h
theorem SR.wipe {σ σ1 : St} (h : SR η σ σ1) : ∀ ws, SR η (L2.wipe σ ws) (L2.wipe σ1 ws)
  | [] => h
  | i :: ws => pset (F := OR η) (x := none) (u := none) trivial i (SR.wipe h ws)
/-- the store's slots forgotten -/
theorem SR.drop {σ σ1 : St} (h : SR η σ σ1) : ∀ ws, SR η (L2.wipe σ ws) σ1
  | [] => h
  | i :: ws => by
    have q := SR.drop h ws
    show SR η ((L2.wipe σ ws).set i none) σ1
    have hl : ∀ {xs : St} {us : St} (i : Nat), SR η xs us → SR η (xs.set i none) us := by
      intro xs us i r
      induction r generalizing i with
      | nil => exact .nil
      | cons r t ih =>
        cases i with
        | zero => exact .cons trivial t
        | succ i => exact .cons r (ih i)
    exact hl i q
def sSet (i : Nat) (m : St → Sto → R V) : St → Sto → R Fl := fun σ S => sE (m σ S) σ fun v S1 => .ok (.nx (σ.set i (some v))) S1
theorem fs_set {i : Nat} {x : Str} {pos' : Pos} (hN : X.N.Nodup) (hi : X.N[i]? = some x) (hx : Loc X.env.scope x) (he : FE X W e m) (hs : swapsWith e (some (.Name x pos')) pos.line X.env = pure false := by rfl) (hf : X.fn x = true ∨ X.env.scope.names.lookup x = some .local := by first | exact .inl rfl | exact .inr rfl | assumption) :
    FS X W (.Assign [.Name x pos'] e pos) (sSet i m) := ⟨PS.wk (ps_set hN hi hx he.run hs hf) fun D σ H h => by
  obtain ⟨η, S, σ0, hR, hS, p⟩ := h
  refine ⟨η, S, σ0, hR, hS, (PoS.expr (rel := VR) hS p).imp fun u H1 ⟨η1, S1, v, e1, hR1, r1, p1⟩ => ?_⟩
  exact p1.now hR1 ((hS.mono e1.1).set i r1)⟩
/-! targets -/
def TgM (X : Cx) (W : WX) (g : TG) (t : V → St → Sto → R St) : Prop := ∀ η S H σ0 σ x u Q, Rel X.K η S H → SR η σ0 σ → VR η x u → Po X.K X.mg W σ SR η H (t x σ0 S) Q → g u σ H Q
structure FG (X : Cx) (W : WX) (tg : Expr) (t : V → St → Sto → R St) : Prop where
  run : ∃ g, PG X tg g ∧ TgM X W g t
def gN (i : Nat) : V → St → Sto → R St := fun v σ S => .ok (σ.set i (some v)) S
theorem fg_name {i : Nat} {x : Str} (hN : X.N.Nodup) (hi : X.N[i]? = some x) (hx : Loc X.env.scope x) (hf : X.fn x = true ∨ X.env.scope.names.lookup x = some .local := by first | exact .inl rfl | exact .inr rfl | assumption) : FG X W (.Name x pos) (gN i) :=
  ⟨_, pg_name hN hi hx hf, fun η S H σ0 σ x u Q hR hS r p => p.now hR (hS.set i r)⟩
/-- a tuple of names -/
def gTs (is : List Nat) (xs : List V) (σ : St) : St := (is.zip xs).foldl (fun σ p => σ.set p.1 (some p.2)) σ
def rdT (v : V) (S : Sto) : Option (List V) := match v with
  | .ref n => match S[n]? with
    | some (.tup xs) => some xs
    | _ => none
  | _ => none
def rdL (v : V) (S : Sto) : Option (List V) := match v with
  | .ref n => match S[n]? with
    | some (.lst xs) => some xs
    | some (.frl xs) => some xs
    | _ => none
  | _ => none
theorem rdT_ok {v u : V} {xs : List V} (h : rdT v S = some xs) (r : Rel K η S H) (q : VR η v u) : ∃ a us, u = .ref a ∧ H a = some (.tup us) ∧ VsR η xs us ∧ xs.length ≤ sizeLine := by
  cases v with
  | ref n =>
    obtain ⟨a, e, rfl⟩ := q
    unfold rdT at h
    cases ho : S[n]? with
    | none => simp [ho] at h
    | some o =>
      cases o with
      | tup ys =>
        simp [ho] at h
        subst h
        obtain ⟨z, us, e2, p⟩ := r.ob n a _ e ho
        exact ⟨a, us, rfl, e2, p, z⟩
      | _ => simp [ho] at h
  | _ => cases h
theorem SqL.side {K : PySem.W.Frag} {a : Addr} {us : List V} (h : SqL K (fun _ => none) a us) (H : Hp) : SqL K H a us := by
  rcases h with (h | ⟨o, h⟩) | h
  · cases h
  · cases h
  · exact .inr h
theorem rdL_ok {v u : V} {xs : List V} (h : rdL v S = some xs) (r : Rel K η S H) (q : VR η v u) : ∃ a us, u = .ref a ∧ SqL K H a us ∧ VsR η xs us ∧ xs.length ≤ sizeLine := by
  cases v with
  | ref n =>
    obtain ⟨a, e, rfl⟩ := q
    unfold rdL at h
    cases ho : S[n]? with
    | none => simp [ho] at h
    | some o =>
      cases o with
      | lst ys =>
        simp [ho] at h
        subst h
        obtain ⟨z, us, e2, p⟩ := r.ob n a _ e ho
        exact ⟨a, us, rfl, SqL.of e2, p, z⟩
      | frl ys =>
        simp [ho] at h
        subst h
        obtain ⟨z, us, e2, p⟩ := r.ob n a _ e ho
        refine ⟨a, us, rfl, ?_, p, z⟩
        rcases e2 with ⟨o, e2⟩ | e2
        · exact .inl (.inr ⟨o, e2⟩)
        · exact SqL.side e2 H
      | _ => simp [ho] at h
  | _ => cases h
def gT (is : List Nat) : V → St → Sto → R St := fun v σ S => match rdT v S with
  | some xs => if xs.length = is.length then .ok (gTs is xs σ) S else .bad
  | none => .bad
/-- a row of names -/
structure FGs (X : Cx) (ts : List Expr) (is : List Nat) (g : TGs) : Prop where
  pgs : PGs X ts g
  mono : ∀ (us : List V) (σ : St) (H : Hp) (Q Q' : St → Hp → Prop), (∀ a b, Q a b → Q' a b) → g us σ H Q → g us σ H Q'
  run : ts.length = is.length ∧ ∀ (us : List V) (σ : St) (H : Hp) Q, us.length = is.length → Q (gTs is us σ) H → g us σ H Q
theorem fgs_nil : FGs X [] [] gNil := ⟨pgs_nil, fun us σ H Q Q' m h => ⟨h.1, m _ _ h.2⟩, rfl, fun us σ H Q hl q => by
  cases us with
  | nil => exact ⟨rfl, q⟩
  | cons _ _ => cases hl⟩
theorem fgs_cons {i : Nat} {is : List Nat} {x : Str} {ts : List Expr} {g : TGs} (hN : X.N.Nodup) (hi : X.N[i]? = some x) (hx : Loc X.env.scope x) (h : FGs X ts is g) (hf : X.fn x = true ∨ X.env.scope.names.lookup x = some .local := by first | exact .inl rfl | exact .inr rfl | assumption) : FGs X (.Name x pos :: ts) (i :: is) (gCons (gName i) g) := by
  obtain ⟨h2, h3⟩ := h.run
  refine ⟨pgs_cons (pg_name hN hi hx hf) h.pgs, fun us σ H Q Q' mm ⟨v, r, e, q⟩ => ⟨v, r, e, h.mono _ _ _ _ _ mm q⟩, by simp [h2], fun us σ H Q hl q => ?_⟩
  cases us with
  | nil => cases hl
  | cons u us => exact ⟨u, us, rfl, h3 us _ H Q (by simpa using hl) q⟩
theorem SR.sets {σ0 σ : St} : ∀ {is : List Nat} {xs us : List V}, SR η σ0 σ → VsR η xs us → SR η (gTs is xs σ0) (gTs is us σ) := by
  intro is
  induction is generalizing σ0 σ with
  | nil => intro xs us h _; exact h
  | cons i is ih =>
    intro xs us h r
    cases r with
    | nil => exact h
    | cons r t => exact ih (h.set i r) t
theorem fg_tup {ts : List Expr} {is : List Nat} {k : Nat} {g : TGs} (hc : X.calm = true) (h : FGs X ts is g) (hn : (assignEach ts X.env).length = is.length := by rfl) (hst : (assignEach ts X.env).findIdx? (·.1) = none := by rfl) : FG X W (.Tuple ts k pos) (gT is) := by
  obtain ⟨h2, h3⟩ := h.run
  refine ⟨_, pg_tup (n := is.length) hc h.pgs hn hst, fun η S H σ0 σ x u Q hR hS r p => ?_⟩
  unfold gT at p
  cases e : rdT x S with
  | none => rw [e] at p; exact p.elim
  | some xs =>
    rw [e] at p
    dsimp only at p
    by_cases hl : xs.length = is.length
    · rw [if_pos hl] at p
      obtain ⟨a, us, rfl, e2, r2, z⟩ := rdT_ok e hR r
      refine ⟨a, us, rfl, SqT.of e2, by rw [← r2.length]; exact hl, h3 us σ H Q (by rw [← r2.length]; exact hl) ?_⟩
      exact p.now hR (SR.sets hS r2)
    · rw [if_neg hl] at p; exact p.elim
def sAs (t : V → St → Sto → R St) (m : St → Sto → R V) : St → Sto → R Fl := fun σ S => sE (m σ S) σ fun v S1 => sE (t v σ S1) σ fun σ2 S2 => .ok (.nx σ2) S2
theorem fs_asg {tg e : Expr} {t : V → St → Sto → R St} (he : FE X W e m) (hg : FG X W tg t) (hs : swapsWithSole [tg] e pos.line X.env = pure false := by rfl) (hw : swappedStores [tg] e X.env = pure none := by rfl) (h1' : (assignEach [tg] X.env).map (·.2) = [assign tg X.env] := by rfl) : FS X W (.Assign [tg] e pos) (sAs t m) := by
  obtain ⟨g, h1, h2⟩ := hg.run
  refine ⟨PS.wk (ps_asg he.run h1 hs hw h1') fun D σ H h => ?_⟩
  obtain ⟨η, S, σ0, hR, hS, p⟩ := h
  refine ⟨η, S, σ0, hR, hS, (PoS.expr (rel := VR) hS p).imp fun u H1 ⟨η1, S1, v, e1, hR1, r1, p1⟩ => ?_⟩
  refine h2 η1 S1 H1 σ0 σ v u _ hR1 (hS.mono e1.1) r1 ((PoS.expr (rel := SR) (hS.mono e1.1) p1).imp fun σ2 H2 ⟨η2, S2, v2, e2, hR2, r2, p2⟩ => ?_)
  exact p2.now hR2 r2
end
end Fx
/-! Fx: what is walked, for, while, comprehensions. -/
namespace Fx
open PySem PySem.Spec L2
open PyProof.Rows hiding St
variable {K : PySem.W.Frag} {η : List Addr} {S : Sto} {H : Hp}
/-- an item that is walked: a value, or a new tuple of values -/
inductive Itm where
  | one (v : V)
  | many (vs : List V)
  /-- a key of a dict by tuples -/
  | key (ks : List Key)
abbrev AI := List Itm × (Sto → Bool)
def YldR (η : List Addr) (it : Itm) (H : Hp) (x : V) (H' : Hp) : Prop := match it with
  | .one v => H' = H ∧ VR η v x
  | .many vs => ∃ T us, x = .ref T ∧ H T = none ∧ H' = upd H T (.tup us) ∧ VsR η vs us
  | .key ks => H' = H ∧ ∃ q, x = .ref q ∧ H q = some (.tup (ks.map kV))
theorem VsR.keys (η : List Addr) : ∀ ks : List Key, VsR η (ks.map kV) (ks.map kV)
  | [] => .nil
  | k :: ks => .cons (VR.closed (by cases k <;> rfl)) (VsR.keys η ks)
structure JR (K : PySem.W.Frag) (η : List Addr) (a : AI) (J : It) : Prop where
  len : a.1.length ≤ sizeLine
  go : ∀ η' S H i it, η <+: η' → Rel K η' S H → a.2 S = true → a.1[i]? = some it → J.go i H ∧ ∀ x H', J.yld i H x H' → YldR η' it H x H'
  stop : ∀ η' S H, η <+: η' → Rel K η' S H → a.2 S = true → J.stop a.1.length H
section
variable (X : Cx) (W : WX)
def lfI (m : St → Sto → R AI) : TI := fun σ H Q => ∃ η S σ0, Rel X.K η S H ∧ SR η σ0 σ ∧ Po X.K X.mg W σ (JR X.K) η H (m σ0 S) Q
structure FI (tg iter : Expr) (m : St → Sto → R AI) : Prop where
  run : ∃ wi, PI X tg iter wi ∧ ∀ σ H Q, lfI X W m σ H Q → wi σ H Q
/-- a target that takes items, into the slots is -/
structure FGI (tg : Expr) (t : Itm → St → Sto → R St) (g : TG) (is : List Nat) : Prop where
  pg : PG X tg g
  mono : ∀ x σ H Q Q', (∀ a b, Q a b → Q' a b) → g x σ H Q → g x σ H Q'
  run : ∀ η S H σ0 σ it x H' Q, Rel X.K η S H → SR η σ0 σ → YldR η it H x H' → Po X.K X.mg W σ SR η H (t it σ0 S) Q → g x σ H' fun σ2 H2 => (∃ us, σ2 = gTs is us σ) ∧ Q σ2 H2
end
section
variable {X : Cx} {W : WX} {e : Expr} {m : St → Sto → R V} {pos : Pos}
/-! targets -/
def gI1 (i : Nat) : Itm → St → Sto → R St := fun it σ S => match it with
  | .one v => .ok (σ.set i (some v)) S
  | .many _ => .bad
  | .key ks => if ks.length ≤ lim then .ok (σ.set i (some (.ref S.length))) (S ++ [.tup (ks.map kV)]) else .bad
def gIT (is : List Nat) : Itm → St → Sto → R St := fun it σ S => match it with
  | .one v => gT is v σ S
  | .many vs => if vs.length = is.length then .ok (gTs is vs σ) S else .bad
  | .key _ => .bad
theorem fgi_name {i : Nat} {x : Str} (hN : X.N.Nodup) (hi : X.N[i]? = some x) (hx : Loc X.env.scope x) (hf : X.fn x = true ∨ X.env.scope.names.lookup x = some .local := by first | exact .inl rfl | exact .inr rfl | assumption) : FGI X W (.Name x pos) (gI1 i) (gName i) [i] :=
  ⟨pg_name hN hi hx hf, fun _ _ _ _ _ m h => m _ _ h, fun η S H σ0 σ it x H' Q hR hS y p => by
    cases it with
    | one v =>
      obtain ⟨rfl, r⟩ := y
      exact ⟨⟨[x], rfl⟩, p.now hR (hS.set i r)⟩
    | many vs => exact p.elim
    | key ks =>
      obtain ⟨rfl, q, rfl, hq⟩ := y
      have p : Po X.K X.mg W σ SR η H' (if ks.length ≤ lim then .ok (σ0.set i (some (.ref S.length))) (S ++ [.tup (ks.map kV)]) else .bad) Q := p
      by_cases hl : ks.length ≤ lim
      · rw [if_pos hl] at p
        exact ⟨⟨[.ref q], rfl⟩, p _ _ _ (Ext.addT hq) (hR.addT hq (VsR.keys η ks) (by rw [List.length_map]; exact hl)) ((hS.mono (List.prefix_append _ _)).set i (VR.new hR))⟩
      · rw [if_neg hl] at p; exact p.elim⟩
theorem fgi_tup {ts : List Expr} {is : List Nat} {k : Nat} {g : TGs} (hc : X.calm = true) (h : FGs X ts is g) (hn : (assignEach ts X.env).length = is.length := by rfl) (hst : (assignEach ts X.env).findIdx? (·.1) = none := by rfl) : FGI X W (.Tuple ts k pos) (gIT is) (gTup X.K is.length g) is := by
  obtain ⟨h2, h3⟩ := h.run
  refine ⟨pg_tup (n := is.length) hc h.pgs hn hst, fun x σ H Q Q' mm ⟨a, xs, e1, e2, e3, q⟩ => ⟨a, xs, e1, e2, e3, h.mono _ _ _ _ _ mm q⟩, fun η S H σ0 σ it x H' Q hR hS y p => ?_⟩
  cases it with
  | one v =>
    obtain ⟨rfl, r⟩ := y
    have p : Po X.K X.mg W σ SR η H' (gT is v σ0 S) Q := p
    unfold gT at p
    cases e : rdT v S with
    | none => rw [e] at p; exact p.elim
    | some xs =>
      rw [e] at p
      dsimp only at p
      by_cases hl : xs.length = is.length
      · rw [if_pos hl] at p
        obtain ⟨a, us, rfl, e2, r2, z⟩ := rdT_ok e hR r
        exact ⟨a, us, rfl, SqT.of e2, by rw [← r2.length]; exact hl, h3 us σ H' _ (by rw [← r2.length]; exact hl) ⟨⟨us, rfl⟩, p.now hR (SR.sets hS r2)⟩⟩
      · rw [if_neg hl] at p; exact p.elim
  | many vs =>
    obtain ⟨T, us, rfl, hT, rfl, r2⟩ := y
    have p : Po X.K X.mg W σ SR η H (if vs.length = is.length then .ok (gTs is vs σ0) S else .bad) Q := p
    by_cases hl : vs.length = is.length
    · rw [if_pos hl] at p
      exact ⟨T, us, rfl, SqT.of upd_same, by rw [← r2.length]; exact hl, h3 us σ _ _ (by rw [← r2.length]; exact hl) ⟨⟨us, rfl⟩, p η _ _ (Ext.side hT _) (hR.side hT _) (SR.sets hS r2)⟩⟩
    · rw [if_neg hl] at p; exact p.elim
  | key ks => exact p.elim
/-! a list -/
def iL (m : St → Sto → R V) : St → Sto → R AI := fun σ S => (m σ S).bind fun v S1 => match rdL v S1 with
  | some xs => .ok (xs.map .one, fun S => rdL v S == some xs) S1
  | none => .bad
theorem JR.list {v u : V} {xs : List V} (h : rdL v S = some xs) (r : Rel K η S H) (q : VR η v u) : ∃ a us, u = .ref a ∧ SqL K H a us ∧ JR K η (xs.map .one, fun S => rdL v S == some xs) (Itl K a) := by
  obtain ⟨a, us, rfl, hq, r2, z⟩ := rdL_ok h r q
  refine ⟨a, us, rfl, hq, by simpa using z, fun η' S' H' i it he hR hc hi => ?_, fun η' S' H' he hR hc => ?_⟩
  · have hc : rdL v S' = some xs := by simpa using hc
    obtain ⟨a', us', e', hq', r', z'⟩ := rdL_ok hc hR (q.mono he)
    cases e'
    have hi : (xs.map Itm.one)[i]? = some it := hi
    rw [List.getElem?_map] at hi
    cases hx : xs[i]? with
    | none => rw [hx] at hi; cases hi
    | some x =>
      rw [hx] at hi
      cases hi
      obtain ⟨w, hw, rw'⟩ := pget r' hx
      refine ⟨⟨us', w, hq', hw⟩, fun y H2 hy => ?_⟩
      obtain ⟨rfl, hy⟩ := hy
      have := (hy us' hq').symm.trans hw
      cases this
      exact ⟨rfl, rw'⟩
  · have hc : rdL v S' = some xs := by simpa using hc
    obtain ⟨a', us', e', hq', r', z'⟩ := rdL_ok hc hR (q.mono he)
    cases e'
    exact ⟨us', hq', by rw [← r'.length]; simp⟩
theorem fi_list {tg : Expr} (h : FE X W e m) : FI X W tg e (iL m) := ⟨_, pi_list h.run, fun σ H Q h => by
  obtain ⟨η, S, σ0, hR, hS, p⟩ := h
  refine ⟨η, S, σ0, hR, hS, (Po.bind (rel := VR) p).imp fun u H1 ⟨η1, S1, v, e1, hR1, r1, p1⟩ => ?_⟩
  cases e : rdL v S1 with
  | none => rw [e] at p1; exact p1.elim
  | some xs =>
    rw [e] at p1
    obtain ⟨a, us, rfl, hq, j⟩ := JR.list e hR1 r1
    exact ⟨a, rfl, ⟨us, hq⟩, p1.now hR1 j⟩⟩
/-! range -/
def rngI (lo : Int) (n : Nat) : List Itm := (List.range n).map fun (i : Nat) => .one (.int (lo + i))
theorem rngI_get {lo : Int} {n i : Nat} {it : Itm} (h : (rngI lo n)[i]? = some it) : i < n ∧ it = .one (.int (lo + i)) := by
  unfold rngI at h
  rw [List.getElem?_map] at h
  by_cases hi : i < n
  · rw [List.getElem?_range hi] at h
    exact ⟨hi, (Option.some.inj h).symm⟩
  · rw [List.getElem?_eq_none (by simpa using hi)] at h
    cases h
theorem rngI_len {lo : Int} {n : Nat} : (rngI lo n).length = n := by simp [rngI]
theorem JR.range {lo : Int} {n : Nat} (hn : n ≤ lim) : JR K η (rngI lo n, fun _ => true) (Itr lo n) :=
  ⟨by show (rngI lo n).length ≤ sizeLine; rw [rngI_len]; exact hn, fun η' S' H' i it he hR hc hi => by
    obtain ⟨h1, rfl⟩ := rngI_get hi
    exact ⟨h1, fun x H2 hy => ⟨hy.1, hy.2⟩⟩, fun η' S' H' he hR hc => by
    show n ≤ (rngI lo n).length
    rw [rngI_len]; exact Nat.le_refl _⟩
def iR1 (m : St → Sto → R (List V)) : St → Sto → R AI := fun σ S => (m σ S).bind fun vs S1 => match vs with
  | [.int j] => if j ≤ 16777216 then (if -1000000 ≤ j then .ok (rngI 0 j.toNat, fun _ => true) S1 else .bad) else .bad
  | _ => .bad
theorem VsR.int1 {j : Int} {us : List V} (h : VsR η [.int j] us) : us = [.int j] := by
  cases h with
  | cons r t => cases t; rw [show _ = V.int j from r]
theorem VsR.int2 {i j : Int} {us : List V} (h : VsR η [.int i, .int j] us) : us = [.int i, .int j] := by
  cases h with
  | cons r t => rw [VsR.int1 t, show _ = V.int i from r]
theorem fi_range1 {tg a : Expr} {ma : St → Sto → R (List V)} {p pos : Pos} (hg : Gl X "range") (hm : X.mg "range" = none) (ha : FA X W [a] ma) (hs : starEach [a] X.env = [(false, eval a X.env)] := by rfl) : FI X W tg (.Call (.Name "range" p) [a] [] pos) (iR1 ma) :=
  ⟨_, pi_range1 hg hm ha.run hs, fun σ H Q h => by
    obtain ⟨η, S, σ0, hR, hS, p⟩ := h
    refine ⟨η, S, σ0, hR, hS, (Po.bind (rel := VsR) p).imp fun us H1 ⟨η1, S1, v, e1, hR1, r1, p1⟩ => ?_⟩
    split at p1
    · rename_i j
      cases VsR.int1 r1
      split at p1
      · rename_i h1
        split at p1
        · rename_i h2
          refine ⟨j, rfl, by omega, by omega, p1.now hR1 (JR.range ?_)⟩
          show j.toNat ≤ 16777216
          omega
        · exact p1.elim
      · exact p1.elim
    · exact p1.elim⟩
def iR2 (m : St → Sto → R (List V)) : St → Sto → R AI := fun σ S => (m σ S).bind fun vs S1 => match vs with
  | [.int i, .int j] => if -1000000 ≤ i ∧ i ≤ 1000000 ∧ -1000000 ≤ j ∧ j ≤ 1000000 then .ok (rngI i (j - i).toNat, fun _ => true) S1 else .bad
  | _ => .bad
theorem fi_range2 {tg a b : Expr} {ma : St → Sto → R (List V)} {p pos : Pos} (hg : Gl X "range") (hm : X.mg "range" = none) (ha : FA X W [a, b] ma) (hs : starEach [a, b] X.env = [(false, eval a X.env), (false, eval b X.env)] := by rfl) (hs2 : starEach [b] X.env = [(false, eval b X.env)] := by rfl) : FI X W tg (.Call (.Name "range" p) [a, b] [] pos) (iR2 ma) :=
  ⟨_, pi_range2 hg hm ha.run hs hs2, fun σ H Q h => by
    obtain ⟨η, S, σ0, hR, hS, p⟩ := h
    refine ⟨η, S, σ0, hR, hS, (Po.bind (rel := VsR) p).imp fun us H1 ⟨η1, S1, v, e1, hR1, r1, p1⟩ => ?_⟩
    split at p1
    · rename_i i j
      cases VsR.int2 r1
      split at p1
      · rename_i h1
        refine ⟨i, j, rfl, ⟨by omega, by omega, by omega, by omega⟩, p1.now hR1 (JR.range ?_)⟩
        show (j - i).toNat ≤ 16777216
        omega
      · exact p1.elim
    · exact p1.elim⟩
/-! zip of two lists -/
def zipI (xs ys : List V) : List Itm := (xs.zip ys).map fun p => .many [p.1, p.2]
def iZ (m : St → Sto → R (List V)) : St → Sto → R AI := fun σ S => (m σ S).bind fun vs S1 => match vs with
  | [v, w] => match rdL v S1, rdL w S1 with
    | some xs, some ys => .ok (zipI xs ys, fun S => (rdL v S == some xs) && (rdL w S == some ys)) S1
    | _, _ => .bad
  | _ => .bad
theorem JR.zip {v w u z : V} {xs ys : List V} (h : rdL v S = some xs) (h2 : rdL w S = some ys) (r : Rel K η S H) (q : VR η v u) (q2 : VR η w z) : ∃ a b us vs, u = .ref a ∧ z = .ref b ∧ SqL K H a us ∧ SqL K H b vs ∧
    JR K η (zipI xs ys, fun S => (rdL v S == some xs) && (rdL w S == some ys)) (Itz K a b) := by
  obtain ⟨a, us, rfl, hq, r2, z1⟩ := rdL_ok h r q
  obtain ⟨b, vs, rfl, hq2, r3, z2⟩ := rdL_ok h2 r q2
  refine ⟨a, b, us, vs, rfl, rfl, hq, hq2, ?_, fun η' S' H' i it he hR hc hi => ?_, fun η' S' H' he hR hc => ?_⟩
  · show (zipI xs ys).length ≤ sizeLine
    unfold zipI
    rw [List.length_map, List.length_zip]
    omega
  · have hc : (rdL v S' == some xs && rdL w S' == some ys) = true := hc
    rw [Bool.and_eq_true] at hc
    obtain ⟨a', us', e', hq', r', z'⟩ := rdL_ok (by simpa using hc.1) hR (q.mono he)
    cases e'
    obtain ⟨b', vs', e', hq2', r2', z2'⟩ := rdL_ok (by simpa using hc.2) hR (q2.mono he)
    cases e'
    have hi : (zipI xs ys)[i]? = some it := hi
    unfold zipI at hi
    rw [List.getElem?_map] at hi
    cases hx : (xs.zip ys)[i]? with
    | none => rw [hx] at hi; cases hi
    | some p =>
      obtain ⟨x, y⟩ := p
      rw [hx] at hi
      cases hi
      rw [List.getElem?_zip_eq_some] at hx
      obtain ⟨x1, hx1, rx1⟩ := pget r' hx.1
      obtain ⟨y1, hy1, ry1⟩ := pget r2' hx.2
      refine ⟨⟨us', vs', x1, y1, hq', hq2', hx1, hy1⟩, fun t H2 hy => ?_⟩
      obtain ⟨T, x2, y2, rfl, hT, rfl, f1, f2⟩ := hy
      have e1 := (f1 us' hq').symm.trans hx1
      have e2 := (f2 vs' hq2').symm.trans hy1
      cases e1; cases e2
      exact ⟨T, [x1, y1], rfl, hT, rfl, .cons rx1 (.cons ry1 .nil)⟩
  · have hc : (rdL v S' == some xs && rdL w S' == some ys) = true := hc
    rw [Bool.and_eq_true] at hc
    obtain ⟨a', us', e', hq', r', z'⟩ := rdL_ok (by simpa using hc.1) hR (q.mono he)
    cases e'
    obtain ⟨b', vs', e', hq2', r2', z2'⟩ := rdL_ok (by simpa using hc.2) hR (q2.mono he)
    cases e'
    refine ⟨us', vs', hq', hq2', ?_⟩
    have e1 := r'.length
    have e2 := r2'.length
    show us'.length ≤ (zipI xs ys).length ∨ vs'.length ≤ (zipI xs ys).length
    unfold zipI
    rw [List.length_map, List.length_zip]
    omega
theorem VsR.two {x y : V} {us : List V} (h : VsR η [x, y] us) : ∃ u v, us = [u, v] ∧ VR η x u ∧ VR η y v := by
  cases h with
  | cons r t =>
    cases t with
    | cons r2 t2 => cases t2; exact ⟨_, _, rfl, r, r2⟩
theorem VsR.one {x : V} {us : List V} (h : VsR η [x] us) : ∃ u, us = [u] ∧ VR η x u := by
  cases h with
  | cons r t => cases t; exact ⟨_, rfl, r⟩
theorem fi_zip {e2 : Expr} {ma : St → Sto → R (List V)} {p pos tpos : Pos} {elts : List Expr} {kk : Nat} (hg : Gl X "zip") (hm : X.mg "zip" = none) (ha : FA X W [e, e2] ma)
    (hs : starEach [e, e2] X.env = (false, eval e X.env) :: starEach [e2] X.env := by rfl) (hs2 : (backTo pos (starEach [e2] X.env)).any (·.1) = false := by rfl) : FI X W (.Tuple elts kk tpos) (.Call (.Name "zip" p) [e, e2] [] pos) (iZ ma) :=
  ⟨_, pi_zip hg hm ha.run hs hs2, fun σ H Q h => by
    obtain ⟨η, S, σ0, hR, hS, p⟩ := h
    refine ⟨η, S, σ0, hR, hS, (Po.bind (rel := VsR) p).imp fun us H1 ⟨η1, S1, v, e1, hR1, r1, p1⟩ => ?_⟩
    split at p1
    · rename_i v w
      obtain ⟨u, z, rfl, q1, q2⟩ := VsR.two r1
      split at p1
      · rename_i xs ys h1 h2
        obtain ⟨a, b, us, vs, rfl, rfl, hq, hq2, j⟩ := JR.zip h1 h2 hR1 q1 q2
        exact ⟨a, b, us, vs, rfl, hq, hq2, p1.now hR1 j⟩
      · exact p1.elim
    · exact p1.elim⟩

/-! ### for -/
def forM (chk : Sto → Bool) (tg : Itm → St → Sto → R St) (ws : List Nat) (body : St → Sto → R Fl) : List Itm → St → Sto → R Fl
  | [], σ, S => if chk S = true then .ok (.nx σ) S else .bad
  | x :: xs, σ, S => if chk S = true then sE (tg x σ S) σ fun σ1 S1 => match body σ1 S1 with
      | .ok (.nx σ2) S2 => forM chk tg ws body xs (wipe σ2 ws) S2
      | .ok (.ct σ2) S2 => forM chk tg ws body xs (wipe σ2 ws) S2
      | .ok (.bk σ2) S2 => .ok (.nx (wipe σ2 ws)) S2
      | r => r
    else .bad
def sFor (mi : St → Sto → R AI) (tg : Itm → St → Sto → R St) (ws : List Nat) (body : St → Sto → R Fl) : St → Sto → R Fl := fun σ S => sE (mi σ S) σ fun a S1 => forM a.2 tg ws body a.1 (wipe σ ws) S1
theorem fs_for {tg iter : Expr} {bd : List Stmt} {mi : St → Sto → R AI} {t : Itm → St → Sto → R St} {body : St → Sto → R Fl} {g : TG} {is : List Nat} (hp : PassesOwn (model X.prog X.w) X.A X.env X.xe) (hc : X.calm = true) (ws : List Nat) (hi : FI X W tg iter mi) (hg : FGI X W tg t g is) (hb : FSs X W bd body)
    (hs : ∀ x, foldedSetIterable iter X.env x = pure x := by intro _; rfl) : FS X W (.For tg iter bd [] pos) (sFor mi t ws body) := by
  obtain ⟨wi, h1, h2⟩ := hi.run
  have h4 := hg.run
  refine ⟨PS.wk (ps_for hp hc h1 hg.pg hb.run hs) fun D σ H h => h2 σ H _ ?_⟩
  obtain ⟨η, S, σ0, hR, hS, p⟩ := h
  refine ⟨η, S, σ0, hR, hS, (PoS.expr (rel := JR X.K) hS p).imp fun J H1 ⟨η1, S1, a, e1, hR1, j, p1⟩ => ?_⟩
  obtain ⟨items, chk⟩ := a
  refine ⟨fun i m σ H => m = items.length - i ∧ i ≤ items.length ∧ ∃ η S σ0, η1 <+: η ∧ Rel X.K η S H ∧ SR η σ0 σ ∧ PoS X W D η H (forM chk t ws body (items.drop i) σ0 S),
    ⟨items.length, by simp, Nat.zero_le _, η1, S1, wipe σ0 ws, List.prefix_refl _, hR1, (hS.mono e1.1).drop ws, p1⟩, ?_⟩
  rintro i m σ2 H2 ⟨rfl, hi, η2, S2, σ02, he2, hR2, hS2, p2⟩
  by_cases hlt : i < items.length
  · have ed : items.drop i = items[i] :: items.drop (i + 1) := (List.drop_eq_getElem_cons hlt)
    rw [ed] at p2
    unfold forM at p2
    by_cases hk : chk S2 = true
    · rw [if_pos hk] at p2
      obtain ⟨hgo, hy⟩ := j.go η2 S2 H2 i items[i] he2 hR2 hk (List.getElem?_eq_getElem hlt)
      refine .inr ⟨hgo, fun σ' H' => ∃ η S σ0, η1 <+: η ∧ Rel X.K η S H' ∧ SR η σ0 σ' ∧ PoS X W D η H' (forM chk t ws body (items.drop (i + 1)) σ0 S), fun σ' H' q => ⟨items.length - (i + 1), by omega, rfl, hlt, q⟩, fun x H' y => ?_⟩
      refine hg.mono _ _ _ _ _ (fun _ _ z => z.2) (h4 η2 S2 H2 σ02 σ2 items[i] x H' _ hR2 hS2 (hy x H' y) ((PoS.expr (rel := SR) hS2 p2).imp fun σ3 H3 ⟨η3, S3, σ03, e3, hR3, hS3, p3⟩ => ?_))
      refine ⟨η3, S3, σ03, hR3, hS3, ?_⟩
      have ee := he2.trans e3.1
      cases hb : body σ03 S3 with
      | ok f S4 =>
        rw [hb] at p3
        cases f with
        | nx σ4 => exact fun η' H' σ' e' r q => ⟨η', S4, wipe σ4 ws, ee.trans e'.1, r, q.drop ws, PoS.mono e' p3⟩
        | ct σ4 => exact fun η' H' σ' e' r q => ⟨η', S4, wipe σ4 ws, ee.trans e'.1, r, q.drop ws, PoS.mono e' p3⟩
        | bk σ4 => exact fun η' H' σ' e' r q => p3 η' H' σ' e' r (q.drop ws)
        | rt v => exact p3
        | rs c σ4 => exact p3
      | exc c S4 => rw [hb] at p3; exact p3
      | bad => rw [hb] at p3; exact p3
    · rw [if_neg hk] at p2; exact p2.elim
  · have ei : i = items.length := by omega
    subst ei
    rw [List.drop_length] at p2
    unfold forM at p2
    by_cases hk : chk S2 = true
    · rw [if_pos hk] at p2
      exact .inl ⟨j.stop η2 S2 H2 he2 hR2 hk, p2.now hR2 hS2⟩
    · rw [if_neg hk] at p2; exact p2.elim

/-! ### while -/
/-- at most n turns -/
def whileN (t : St → Sto → R Bool) (ws : List Nat) (body : St → Sto → R Fl) : Nat → St → Sto → Option (R Fl)
  | 0, _, _ => none
  | n + 1, σ, S => match t σ S with
    | .ok true S1 => match body σ S1 with
      | .ok (.nx σ2) S2 => whileN t ws body n (wipe σ2 ws) S2
      | .ok (.ct σ2) S2 => whileN t ws body n (wipe σ2 ws) S2
      | .ok (.bk σ2) S2 => some (.ok (.nx (wipe σ2 ws)) S2)
      | r => some r
    | .ok false S1 => some (.ok (.nx σ) S1)
    | .exc c S1 => some (.ok (.rs c σ) S1)
    | .bad => some .bad
theorem whileN_mono {t : St → Sto → R Bool} {ws : List Nat} {body : St → Sto → R Fl} {r : R Fl} : ∀ {n m : Nat} {σ : St} {S : Sto}, n ≤ m → whileN t ws body n σ S = some r → whileN t ws body m σ S = some r
  | 0, _, _, _, _, h => by cases h
  | n + 1, 0, _, _, h, _ => by omega
  | n + 1, m + 1, σ, S, hl, h => by
    have hl' : n ≤ m := by omega
    unfold whileN at h ⊢
    split at h
    · split at h
      · exact whileN_mono hl' h
      · exact whileN_mono hl' h
      · exact h
      · exact h
    · exact h
    · exact h
    · exact h
open Classical in
noncomputable def whileM (t : St → Sto → R Bool) (ws : List Nat) (body : St → Sto → R Fl) (σ : St) (S : Sto) : R Fl :=
  if h : ∃ r, ∃ n, whileN t ws body n σ S = some r then Classical.choose h else .bad
theorem whileM_of {t : St → Sto → R Bool} {ws : List Nat} {body : St → Sto → R Fl} {σ : St} {S : Sto} {r : R Fl} {n : Nat} (h : whileN t ws body n σ S = some r) : whileM t ws body σ S = r := by
  have hx : ∃ r, ∃ n, whileN t ws body n σ S = some r := ⟨r, n, h⟩
  unfold whileM
  rw [dif_pos hx]
  obtain ⟨m, hm⟩ := Classical.choose_spec hx
  have a := whileN_mono (Nat.le_max_left n m) h
  have b := whileN_mono (Nat.le_max_right n m) hm
  rw [a] at b
  exact (Option.some.inj b).symm
/-- one turn -/
theorem whileM_turn (t : St → Sto → R Bool) (ws : List Nat) (body : St → Sto → R Fl) (σ : St) (S : Sto) : whileM t ws body σ S = match t σ S with
    | .ok true S1 => match body σ S1 with
      | .ok (.nx σ2) S2 => whileM t ws body (wipe σ2 ws) S2
      | .ok (.ct σ2) S2 => whileM t ws body (wipe σ2 ws) S2
      | .ok (.bk σ2) S2 => .ok (.nx (wipe σ2 ws)) S2
      | r => r
    | .ok false S1 => .ok (.nx σ) S1
    | .exc c S1 => .ok (.rs c σ) S1
    | .bad => .bad := by
  have again : ∀ σ2 S2, (∀ n, whileN t ws body (n + 1) σ S = whileN t ws body n σ2 S2) → whileM t ws body σ S = whileM t ws body σ2 S2 := fun σ2 S2 e => by
    by_cases hx : ∃ r, ∃ n, whileN t ws body n σ2 S2 = some r
    · obtain ⟨r, n, h⟩ := hx
      rw [whileM_of h, whileM_of ((e n).trans h)]
    · have hy : ¬ ∃ r, ∃ n, whileN t ws body n σ S = some r := fun ⟨r, n, h⟩ => by
        cases n with
        | zero => cases h
        | succ n => exact hx ⟨r, n, (e n).symm.trans h⟩
      unfold whileM
      rw [dif_neg hx, dif_neg hy]
  cases ht : t σ S with
  | ok b S1 =>
    cases b with
    | true =>
      dsimp only
      cases hb : body σ S1 with
      | ok f S2 =>
        cases f with
        | nx σ2 => exact again _ _ fun n => by rw [whileN, ht]; dsimp only; rw [hb]
        | ct σ2 => exact again _ _ fun n => by rw [whileN, ht]; dsimp only; rw [hb]
        | bk σ2 => exact whileM_of (n := 1) (by rw [whileN, ht]; dsimp only; rw [hb])
        | rt v => exact whileM_of (n := 1) (by rw [whileN, ht]; dsimp only; rw [hb])
        | rs c σ2 => exact whileM_of (n := 1) (by rw [whileN, ht]; dsimp only; rw [hb])
      | exc c S2 => exact whileM_of (n := 1) (by rw [whileN, ht]; dsimp only; rw [hb])
      | bad => exact whileM_of (n := 1) (by rw [whileN, ht]; dsimp only; rw [hb])
    | false => exact whileM_of (n := 1) (by rw [whileN, ht])
  | exc c S1 => exact whileM_of (n := 1) (by rw [whileN, ht])
  | bad => exact whileM_of (n := 1) (by rw [whileN, ht])
noncomputable def sWh (t : St → Sto → R Bool) (ws : List Nat) (body : St → Sto → R Fl) : St → Sto → R Fl := fun σ S => whileM t ws body (wipe σ ws) S
theorem fs_while {cnd : Expr} {bd : List Stmt} {t : St → Sto → R Bool} {body : St → Sto → R Fl} (hp : PassesOwn (model X.prog X.w) X.A X.env X.xe) (ws : List Nat) (hc : FT X W cnd t) (hb : FSs X W bd body) : FS X W (.While cnd bd [] pos) (sWh t ws body) := by
  refine ⟨PS.wk (ps_while hp hc.run hb.run) fun D σ H h => ?_⟩
  obtain ⟨η, S, σ0, hR, hS, p⟩ := h
  refine ⟨fun m σ H => ∃ η S σ0 r, whileN t ws body m σ0 S = some r ∧ Rel X.K η S H ∧ SR η σ0 σ ∧ PoS X W D η H r, ?_, ?_⟩
  · have p : PoS X W D η H (whileM t ws body (wipe σ0 ws) S) := p
    by_cases hx : ∃ r, ∃ n, whileN t ws body n (wipe σ0 ws) S = some r
    · obtain ⟨r, n, h⟩ := hx
      rw [whileM_of h] at p
      exact ⟨n, η, S, wipe σ0 ws, r, h, hR, hS.drop ws, p⟩
    · unfold whileM at p
      rw [dif_neg hx] at p
      exact p.elim
  · rintro m σ2 H2 ⟨η2, S2, σ02, r, hw, hR2, hS2, p2⟩
    cases m with
    | zero => cases hw
    | succ n =>
      unfold whileN at hw
      refine ⟨η2, S2, σ02, hR2, hS2, ?_⟩
      cases ht : t σ02 S2 with
      | ok b S3 =>
        rw [ht] at hw
        intro η3 H3 u e3 hR3 hu
        subst hu
        cases u with
        | true =>
          rw [if_pos rfl]
          refine ⟨fun σ' H' => ∃ η S σ0 r, whileN t ws body n σ0 S = some r ∧ Rel X.K η S H' ∧ SR η σ0 σ' ∧ PoS X W D η H' r, fun σ' H' q => ⟨n, Nat.lt_succ_self _, q⟩, η3, S3, σ02, hR3, hS2.mono e3.1, ?_⟩
          dsimp only at hw
          cases hb : body σ02 S3 with
          | ok f S4 =>
            rw [hb] at hw
            cases f with
            | nx σ4 => exact fun η' H' σ' e' r2 q => ⟨η', S4, wipe σ4 ws, r, hw, r2, q.drop ws, PoS.mono (e3.trans e') p2⟩
            | ct σ4 => exact fun η' H' σ' e' r2 q => ⟨η', S4, wipe σ4 ws, r, hw, r2, q.drop ws, PoS.mono (e3.trans e') p2⟩
            | bk σ4 =>
              cases hw
              exact fun η' H' σ' e' r2 q => p2 η' H' σ' (e3.trans e') r2 (q.drop ws)
            | rt v => cases hw; exact PoS.mono (D := D) (r := .ok (.rt v) S4) e3 p2
            | rs c σ4 => cases hw; exact PoS.mono (D := D) (r := .ok (.rs c σ4) S4) e3 p2
          | exc c S4 => rw [hb] at hw; cases hw; exact p2
          | bad => rw [hb] at hw; cases hw; exact p2
        | false =>
          rw [if_neg Bool.false_ne_true]
          cases hw
          exact p2 η3 H3 σ2 e3 hR3 (hS2.mono e3.1)
      | exc c S3 =>
        rw [ht] at hw
        cases hw
        exact fun η' H' C e' r2 q => p2 η' H' σ2 C e' r2 (hS2.mono e'.1) q
      | bad => rw [ht] at hw; cases hw; exact p2
end
end Fx
/-! Fx: comprehensions, more assignments, raise, try, defs. -/
namespace Fx
open PySem PySem.Spec L2
open PyProof.Rows hiding St
variable {K : PySem.W.Frag} {η : List Addr} {S : Sto} {H : Hp}
/-! ### slots that are forgotten -/
theorem wipe_get (σ : St) : ∀ (vs : List Nat) (j : Nat), (wipe σ vs)[j]? = if j ∈ vs then (σ[j]?).map fun _ => none else σ[j]?
  | [], j => by simp [wipe]
  | v :: vs, j => by
    show ((wipe σ vs).set v none)[j]? = _
    have ih := wipe_get σ vs
    by_cases h : j = v
    · subst h
      rw [if_pos List.mem_cons_self]
      by_cases hl : j < (wipe σ vs).length
      · rw [List.getElem?_set_self hl]
        have hl' : j < σ.length := by rw [wipe_length] at hl; exact hl
        rw [List.getElem?_eq_getElem hl']; rfl
      · rw [List.getElem?_eq_none (by rw [List.length_set]; omega)]
        rw [wipe_length] at hl
        rw [List.getElem?_eq_none (by omega)]; rfl
    · rw [List.getElem?_set_ne (Ne.symm h), ih]
      by_cases hm : j ∈ vs
      · rw [if_pos hm, if_pos (List.mem_cons_of_mem _ hm)]
      · rw [if_neg hm, if_neg (by simp [h, hm])]
theorem wipe_set {σ : St} {vs : List Nat} {i : Nat} {v : Option V} (h : i ∈ vs) : wipe (σ.set i v) vs = wipe σ vs := by
  apply List.ext_getElem?
  intro j
  rw [wipe_get, wipe_get]
  by_cases hj : j = i
  · subst hj
    rw [if_pos h, if_pos h]
    by_cases hl : j < σ.length
    · rw [List.getElem?_set_self hl, List.getElem?_eq_getElem hl]; rfl
    · rw [List.getElem?_eq_none (by simpa using hl), List.getElem?_eq_none (by omega)]
  · rw [List.getElem?_set_ne (Ne.symm hj)]
theorem wipe_sets {vs : List Nat} : ∀ {is : List Nat} {us : List V} {σ : St}, (∀ i ∈ is, i ∈ vs) → wipe (gTs is us σ) vs = wipe σ vs
  | [], _, _, _ => rfl
  | i :: is, [], _, _ => rfl
  | i :: is, u :: us, σ, h => by
    show wipe (gTs is us (σ.set i (some u))) vs = _
    rw [wipe_sets (fun j hj => h j (List.mem_cons_of_mem _ hj)), wipe_set (h i List.mem_cons_self)]
theorem wipe_wipe (σ : St) (vs : List Nat) : wipe (wipe σ vs) vs = wipe σ vs := by
  apply List.ext_getElem?
  intro j
  rw [wipe_get, wipe_get]
  by_cases h : j ∈ vs
  · rw [if_pos h, if_pos h]; cases σ[j]? <;> rfl
  · rw [if_neg h, if_neg h]
/-! ### comprehensions -/
def compM (chk : Sto → Bool) (tg : Itm → St → Sto → R St) (tt : St → Sto → R Bool) (te : St → Sto → R V) : List Itm → St → Sto → R (List V)
  | [], σ, S => if chk S = true then .ok [] S else .bad
  | x :: xs, σ, S => if chk S = true then (tg x σ S).nox.bind fun σ1 S1 => (tt σ1 S1).nox.bind fun b S2 => if b = true then (te σ1 S2).nox.bind fun y S3 => (compM chk tg tt te xs σ S3).bind fun ys S4 => .ok (y :: ys) S4
      else compM chk tg tt te xs σ S2
    else .bad
def tYs : St → Sto → R Bool := fun _ S => .ok true S
def eComp (mi : St → Sto → R AI) (tg : Itm → St → Sto → R St) (tt : St → Sto → R Bool) (te : St → Sto → R V) (own : List Nat) : St → Sto → R V := fun σ S => (mi σ S).bind fun a S1 => (compM a.2 tg tt te a.1 (wipe σ own) S1).bind fun ys S2 => alloc (.lst ys) S2
abbrev W0 : WX := fun _ _ _ _ => False
section
variable {X : Cx} {W : WX} {e : Expr} {m : St → Sto → R V} {pos : Pos}
theorem Po.bindB {α β γ δ : Type} {mg : Str → Option Value} {W : WX} {σ σ' : St} {rel : List Addr → α → β → Prop} {rel2 : List Addr → γ → δ → Prop} {η1 : List Addr} {H1 : Hp} {r : R α} {f : α → Sto → R γ} {Q : δ → Hp → Prop} (p : Po K mg W σ rel2 η1 H1 (r.nox.bind f) Q) :
    Po K mg W0 σ' rel η H r (fun u H' => ∃ η' S' v, Ext η H η' H' ∧ Rel K η' S' H' ∧ rel η' v u ∧ Po K mg W σ rel2 η1 H1 (f v S') Q) := by
  cases r with
  | ok v S' => exact fun η' H' u e' r q => ⟨η', S', v, e', r, q, p⟩
  | exc c S' => exact p.elim
  | bad => exact p.elim
structure FTs (X : Cx) (W : WX) (ifs : List Expr) (t : St → Sto → R Bool) : Prop where
  run : PTs X ifs (lfT X W t)
theorem fts_nil : FTs X W [] tYs := ⟨⟨fun pins s σ H Q I h => by
  obtain ⟨η, S, σ0, hR, hS, p⟩ := h
  exact (pts_nil (X := X)).run pins s σ H Q I (p.now hR rfl)⟩⟩
theorem fts_one {c : Expr} {t : St → Sto → R Bool} (h : FT X W c t) : FTs X W [c] t := ⟨pts_one h.run⟩
theorem lf_lc {mi : St → Sto → R AI} {tg : Itm → St → Sto → R St} {tt : St → Sto → R Bool} {te : St → Sto → R V} {own : List Nat} {wi : TI} {g : TG} {is : List Nat}
    (hi : ∀ σ H Q, lfI X W mi σ H Q → wi σ H Q) (hg : ∀ η S H σ0 σ it x H' Q, Rel X.K η S H → SR η σ0 σ → YldR η it H x H' → Po X.K X.mg W0 σ SR η H (tg it σ0 S) Q → g x σ H' fun σ2 H2 => (∃ us, σ2 = gTs is us σ) ∧ Q σ2 H2)
    (hm : ∀ x σ H Q Q', (∀ a b, Q a b → Q' a b) → g x σ H Q → g x σ H Q') (his : ∀ i ∈ is, i ∈ own) {σ : St} {H : Hp} {Q : VK} (h : lfE X W (eComp mi tg tt te own) σ H Q) : tLc wi g (lfT X W0 tt) (lfE X W0 te) own σ H Q := by
  refine hi σ H _ ?_
  obtain ⟨η, S, σ0, hR, hS, p⟩ := h
  refine ⟨η, S, σ0, hR, hS, (Po.bind (rel := JR X.K) p).imp fun J H1 ⟨η1, S1, a, e1, hR1, j, p1⟩ => ?_⟩
  obtain ⟨items, chk⟩ := a
  intro D hD
  have hSw : ∀ η2, η1 <+: η2 → SR η2 (wipe σ0 own) (wipe σ own) := fun η2 h2 => (hS.mono (e1.1.trans h2)).wipe own
  -- the invariant
  refine ⟨fun i m H => m = items.length - i ∧ i ≤ items.length ∧ ∃ η S acc us, Ext η1 H1 η H ∧ Rel X.K η S H ∧ H D = some (.lst us) ∧ VsR η acc us ∧ D ∉ η.drop 1 ∧ acc.length ≤ i ∧
    Po X.K X.mg W σ VR η1 H1 ((compM chk tg tt te (items.drop i) (wipe σ0 own) S).bind fun ys S2 => alloc (.lst (acc ++ ys)) S2) Q, ?_, ?_⟩
  · exact ⟨items.length, by simp, Nat.zero_le _, η1, S1, [], [], Ext.side hD _, hR1.side hD _, upd_same, .nil, hR1.off hD, Nat.le_refl _, p1⟩
  · rintro i mm H2 ⟨rfl, hil, η2, S2, acc, us, e2, hR2, hDu, hacc, hDo, hal, p2⟩
    by_cases hlt : i < items.length
    · have ed : items.drop i = items[i] :: items.drop (i + 1) := (List.drop_eq_getElem_cons hlt)
      rw [ed] at p2
      unfold compM at p2
      by_cases hk : chk S2 = true
      · rw [if_pos hk] at p2
        obtain ⟨hgo, hy⟩ := j.go η2 S2 H2 i items[i] e2.1 hR2 hk (List.getElem?_eq_getElem hlt)
        refine .inr ⟨hgo, fun H' => ∃ η S acc us, Ext η1 H1 η H' ∧ Rel X.K η S H' ∧ H' D = some (.lst us) ∧ VsR η acc us ∧ D ∉ η.drop 1 ∧ acc.length ≤ i + 1 ∧
          Po X.K X.mg W σ VR η1 H1 ((compM chk tg tt te (items.drop (i + 1)) (wipe σ0 own) S).bind fun ys S2 => alloc (.lst (acc ++ ys)) S2) Q, fun H' q => ⟨items.length - (i + 1), by omega, rfl, hlt, q⟩, fun x H' y => ?_⟩
        have as : ∀ {α β γ : Type} (r : R α) (f : α → Sto → R β) (k : β → Sto → R γ), (r.bind f).bind k = r.bind fun a S => (f a S).bind k := fun r f k => by cases r <;> rfl
        rw [as] at p2
        refine hm _ _ _ _ _ (fun σ3 H3 z => ?_) (hg η2 S2 H2 (wipe σ0 own) (wipe σ own) items[i] x H' _ hR2 (hSw η2 e2.1) (hy x H' y) (Po.bindB (rel := SR) (η := η2) (H := H2) p2))
        obtain ⟨⟨us3, rfl⟩, η3, S3, σ03, e3, hR3, hS3, p3⟩ := z
        refine ⟨by rw [wipe_sets his, wipe_wipe], ?_⟩
        rw [as] at p3
        refine ⟨η3, S3, σ03, hR3, hS3, (Po.bindB (rel := fun _ a b => b = a) (η := η3) (H := H3) p3).imp fun b H4 ⟨η4, S4, b', e4, hR4, rb, p4⟩ => ?_⟩
        subst rb
        have e24 := e3.trans e4
        obtain ⟨hD4, hDo4⟩ := e24.2.1 D _ hDu hDo rfl
        cases b with
        | false =>
          rw [if_neg Bool.false_ne_true] at p4 ⊢
          exact ⟨η4, S4, acc, us, e2.trans e24, hR4, hD4, hacc.mono e24.1, hDo4, by omega, p4⟩
        | true =>
          rw [if_pos rfl] at p4 ⊢
          rw [as] at p4
          refine ⟨η4, S4, σ03, hR4, hS3.mono e4.1, (Po.bindB (rel := VR) (η := η4) (H := H4) p4).imp fun v H5 ⟨η5, S5, v', e5, hR5, rv, p5⟩ => ?_⟩
          obtain ⟨hD5, hDo5⟩ := e5.2.1 D _ hD4 hDo4 rfl
          have hl := hacc.length
          have hjl := j.len
          refine ⟨us, hD5, by
            have : items.length ≤ sizeLine := hjl
            omega, η5, S5, acc ++ [v'], us ++ [v], ((e2.trans e24).trans e5).upd hD _, hR5.other hDo5 (fun o us' q => by rw [hD5] at q; cases q) _ (imm_lst hD5), upd_same, papp (hacc.mono (e24.1.trans e5.1)) (.cons rv .nil), hDo5, by simp; omega, ?_⟩
          rw [as] at p5
          have eq : (fun a S => ((R.ok (v' :: a) S).bind fun ys S2 => alloc (.lst (acc ++ ys)) S2)) = fun ys S2 => alloc (.lst (acc ++ [v'] ++ ys)) S2 := by
            funext a S
            show alloc (.lst (acc ++ v' :: a)) S = _
            rw [List.append_assoc]; rfl
          rw [← eq]
          exact p5
      · rw [if_neg hk] at p2; exact p2.elim
    · have ei : i = items.length := by omega
      subst ei
      rw [List.drop_length] at p2
      unfold compM at p2
      by_cases hk : chk S2 = true
      · rw [if_pos hk] at p2
        refine .inl ⟨j.stop η2 S2 H2 e2.1 hR2 hk, ?_⟩
        have hjl := j.len
        have p2 : Po X.K X.mg W σ VR η1 H1 (alloc (.lst (acc ++ [])) S2) Q := p2
        rw [List.append_nil] at p2
        exact p2 (η2 ++ [D]) H2 (.ref D) (Ext.add hR2 e2 hD) (hR2.add hDo (o := .lst acc) ⟨Nat.le_trans hal hjl, us, hDu, hacc.mono (List.prefix_append _ _)⟩ rfl) (VR.new hR2)
      · rw [if_neg hk] at p2; exact p2.elim
theorem fe_lc {elt tg iter : Expr} {ifs : List Expr} {scope : Scope} {own : List (Str × Nat)} {mi : St → Sto → R AI} {t : Itm → St → Sto → R St} {g : TG} {is : List Nat} {tt : St → Sto → R Bool} {te : St → Sto → R V} (hc : X.calm = true) (hN : X.N.Nodup) (hi : FI X W tg iter mi) (ok : BlkOk X.N X.env.scope scope own)
    (hg : ∀ (s : Shared) (H : Hp) (C : Addr) (cl : List (Str × Addr)) (fp : List Addr), FGI (X.blk s H scope (compEnvC scope cl C X.env) fp) W0 tg t g is) (ht : ∀ (s : Shared) (H : Hp) (C : Addr) (cl : List (Str × Addr)) (fp : List Addr), FTs (X.blk s H scope (compEnvC scope cl C X.env) fp) W0 ifs tt)
    (he : ∀ (s : Shared) (H : Hp) (C : Addr) (cl : List (Str × Addr)) (fp : List Addr), FE (X.blk s H scope (compEnvC scope cl C X.env) fp) W0 elt te) (his : ∀ i ∈ is, i ∈ own.map (·.2) := by decide) (hs : ∀ x, foldedSetIterable iter X.env x = pure x := by intro _; rfl) :
    FE X W (.ListComp elt [⟨tg, iter, ifs, 0⟩] scope pos) (eComp mi t tt te (own.map (·.2))) := by
  obtain ⟨wi, h1, h2⟩ := hi.run
  have sh : Shared := {}
  exact ⟨PE.wk (pe_lc (te := lfE X W0 te) (tt := lfT X W0 tt) hc hN h1 ok (fun s H C cl fp => (hg s H C cl fp).pg) (fun s H C cl fp => (ht s H C cl fp).run) (fun s H C cl fp => (he s H C cl fp).run) hs) fun σ H Q h =>
    lf_lc h2 (hg sh (fun _ => none) 0 [] []).run (hg sh (fun _ => none) 0 [] []).mono his h⟩
theorem fs_setLc {i : Nat} {y : Str} {py : Pos} {elt tg iter : Expr} {ifs : List Expr} {scope : Scope} {own : List (Str × Nat)} {spos : Pos} {mi : St → Sto → R AI} {t : Itm → St → Sto → R St} {g : TG} {is : List Nat} {tt : St → Sto → R Bool} {te : St → Sto → R V} (hc : X.calm = true) (hN : X.N.Nodup) (hy : X.N[i]? = some y) (hyl : X.env.scope.names.lookup y = some .local)
    (hsw : swapsWith (.ListComp elt [⟨tg, iter, ifs, 0⟩] scope pos) (some (.Name y py)) spos.line X.env = pure true) (hi : FI X W tg iter mi) (ok : BlkOk X.N X.env.scope scope own)
    (hg : ∀ (s : Shared) (H : Hp) (C : Addr) (cl : List (Str × Addr)) (fp : List Addr), FGI (X.blk s H scope (compEnvC scope cl C X.env) fp) W0 tg t g is) (ht : ∀ (s : Shared) (H : Hp) (C : Addr) (cl : List (Str × Addr)) (fp : List Addr), FTs (X.blk s H scope (compEnvC scope cl C X.env) fp) W0 ifs tt)
    (he : ∀ (s : Shared) (H : Hp) (C : Addr) (cl : List (Str × Addr)) (fp : List Addr), FE (X.blk s H scope (compEnvC scope cl C X.env) fp) W0 elt te) (his : ∀ i ∈ is, i ∈ own.map (·.2) := by decide) (hs : ∀ x, foldedSetIterable iter X.env x = pure x := by intro _; rfl) :
    FS X W (.Assign [.Name y py] (.ListComp elt [⟨tg, iter, ifs, 0⟩] scope pos) spos) (sSet i (eComp mi t tt te (own.map (·.2)))) := by
  obtain ⟨wi, h1, h2⟩ := hi.run
  have sh : Shared := {}
  refine ⟨PS.wk (ps_setLc (te := lfE X W0 te) (tt := lfT X W0 tt) hc hN hy hyl hsw h1 ok (fun s H C cl fp => (hg s H C cl fp).pg) (fun s H C cl fp => (ht s H C cl fp).run) (fun s H C cl fp => (he s H C cl fp).run) hs) fun D σ H h => ?_⟩
  refine lf_lc h2 (hg sh (fun _ => none) 0 [] []).run (hg sh (fun _ => none) 0 [] []).mono his ?_
  obtain ⟨η, S, σ0, hR, hS, p⟩ := h
  refine ⟨η, S, σ0, hR, hS, (PoS.expr (rel := VR) hS p).imp fun u H1 ⟨η1, S1, v, e1, hR1, r1, p1⟩ => ?_⟩
  exact p1.now hR1 ((hS.mono e1.1).set i r1)
end
end Fx
/-! Fx: stores, defs and their ends. -/
namespace Fx
open PySem PySem.Spec L2
open PyProof.Rows hiding St
variable {K : PySem.W.Frag} {η : List Addr} {S : Sto} {H : Hp}
section
variable {X : Cx} {W : WX} {e : Expr} {m : St → Sto → R V} {pos : Pos}
/-! o[i] = v -/
def SetM (X : Cx) (t : TSet) (m : V → V → V → Sto → R Unit) : Prop := ∀ W σ η S H o i v uo ui uv Q, Rel X.K η S H → VR η o uo → VR η i ui → VR η v uv → Po X.K X.mg W σ (fun _ _ (_ : Unit) => True) η H (m o i v S) (fun _ H' => Q H') → t uo ui uv H Q
def gSb (mo mi : St → Sto → R V) (m : V → V → V → Sto → R Unit) : V → St → Sto → R St := fun v σ S => (mo σ S).bind fun o S1 => (mi σ S1).bind fun i S2 => (m o i v S2).bind fun _ S3 => .ok σ S3
theorem fg_sub {o i : Expr} {mo mi : St → Sto → R V} {t : TSet} {m : V → V → V → Sto → R Unit} (ho : FE X W o mo) (hi : FE X W i mi) (hs : PSet X t) (hm : SetM X t m) (ha : ∀ v, assign (.Subscript o i pos) X.env v = (do let ov ← holding [v] (eval o X.env); let iv ← holding [v, ov] (eval i X.env); standAt pos; holding [v, ov, iv] (setItem ov iv v); release [v, ov, iv] []) := by intro _; rfl) : FG X W (.Subscript o i pos) (gSb mo mi m) :=
  ⟨_, pg_sub ho.run hi.run hs ha, fun η S H σ0 σ x u Q hR hS r p => by
    refine ⟨η, S, σ0, hR, hS, (Po.bind (rel := VR) p).imp fun u1 H1 ⟨η1, S1, v1, e1, hR1, r1, p1⟩ => ?_⟩
    refine ⟨η1, S1, σ0, hR1, hS.mono e1.1, (Po.bind (rel := VR) p1).imp fun u2 H2 ⟨η2, S2, v2, e2, hR2, r2, p2⟩ => ?_⟩
    refine hm W σ η2 S2 H2 v1 v2 x u1 u2 u _ hR2 (r1.mono e2.1) r2 (r.mono (e1.1.trans e2.1)) ((Po.bind (rel := fun _ _ (_ : Unit) => True) p2).imp fun _ H3 ⟨η3, S3, v3, e3, hR3, _, p3⟩ => ?_)
    exact p3.now hR3 (hS.mono (e1.1.trans (e2.1.trans e3.1)))⟩
def setL : V → V → V → Sto → R Unit := fun o i v S => match o, i with
  | .ref n, .int k => match S[n]? with
    | some (.lst xs) => match ixN xs.length k with
      | some j => .ok () (S.set n (.lst (xs.set j v)))
      | none => .bad
    | _ => .bad
  | _, _ => .bad
theorem setL_ok : SetM X rSetL setL := by
  intro W σ η S H o i v uo ui uv Q hR ho hi hv p
  unfold setL at p
  split at p
  · rename_i n k
    obtain ⟨a, ea, rfl⟩ := ho
    cases (show ui = V.int k from hi)
    split at p
    · rename_i xs hx
      split at p
      · rename_i j hj
        obtain ⟨z, us, e2, r2⟩ := hR.ob n a _ ea hx
        refine ⟨a, us, k, j, rfl, rfl, e2, by rw [← r2.length]; exact hj, ?_⟩
        exact p η _ () (Ext.set hR ea hx rfl) (hR.set ea hx rfl ⟨by simpa using z, _, upd_same, pset hv j r2⟩ rfl) trivial
      · exact p.elim
    · exact p.elim
  · exact p.elim
/-! op= -/
def IpM (X : Cx) (t : TIp) (m : V → V → Sto → R V) : Prop := ∀ W σ η S H x y u v Q, Rel X.K η S H → VR η x u → VR η y v → Po X.K X.mg W σ VR η H (m x y S) Q → t u v H Q
def sAug (i : Nat) (m : V → V → Sto → R V) (me : St → Sto → R V) : St → Sto → R Fl := fun σ S => match σ[i]? with
  | some (some x) => sE (me σ S) σ fun y S1 => sE (m x y S1) σ fun z S2 => .ok (.nx (σ.set i (some z))) S2
  | _ => .bad
theorem fs_aug {i : Nat} {x : Str} {op : Operator} {t : TIp} {mo : V → V → Sto → R V} {pos' : Pos} (hN : X.N.Nodup) (hi : X.N[i]? = some x) (hx : Loc X.env.scope x) (he : FE X W e m) (ho : PIp X op t) (hm : IpM X t mo) (hf : X.fn x = true ∨ X.env.scope.names.lookup x = some .local := by first | exact .inl rfl | exact .inr rfl | assumption) :
    FS X W (.AugAssign (.Name x pos') op e pos) (sAug i mo m) := ⟨PS.wk (ps_aug hN hi hx he.run ho hf) fun D σ H h => by
  obtain ⟨η, S, σ0, hR, hS, p⟩ := h
  unfold sAug at p
  cases ex : σ0[i]? with
  | none => rw [ex] at p; exact p.elim
  | some o =>
    cases o with
    | none => rw [ex] at p; exact p.elim
    | some v =>
      rw [ex] at p
      obtain ⟨w, h1, h2⟩ := pget hS ex
      cases w with
      | none => exact h2.elim
      | some w =>
        refine ⟨w, h1, η, S, σ0, hR, hS, (PoS.expr (rel := VR) hS p).imp fun u H1 ⟨η1, S1, y, e1, hR1, r1, p1⟩ => ?_⟩
        refine hm W σ η1 S1 H1 v y w u _ hR1 (VR.mono e1.1 h2) r1 ((PoS.expr (rel := VR) (hS.mono e1.1) p1).imp fun z H2 ⟨η2, S2, z', e2, hR2, r2, p2⟩ => ?_)
        exact p2.now hR2 ((hS.mono (e1.1.trans e2.1)).set i r2)⟩
def sAugS (mo mi : St → Sto → R V) (get : V → V → Sto → R V) (me : St → Sto → R V) (op : V → V → Sto → R V) (set : V → V → V → Sto → R Unit) : St → Sto → R Fl := fun σ S =>
  sE (mo σ S) σ fun o S1 => sE (mi σ S1) σ fun i S2 => sE (get o i S2) σ fun x S3 => sE (me σ S3) σ fun y S4 => sE (op x y S4) σ fun z S5 => sE (set o i z S5) σ fun _ S6 => .ok (.nx σ) S6
theorem fs_augS {o i : Expr} {mo mi : St → Sto → R V} {get op' : V → V → Sto → R V} {set : V → V → V → Sto → R Unit} {tget : V → V → Hp → VK → Prop} {tip : TIp} {tset : TSet} {op : Operator} {tpos : Pos} (ho : FE X W o mo) (hi : FE X W i mi) (hg : PGet X tget) (hgm : OpM X tget get) (he : FE X W e m) (hp : PIp X op tip) (hpm : IpM X tip op') (hs : PSet X tset) (hsm : SetM X tset set)
    (ha : ∀ ov iv new, augStore i ov iv new = (do holding [new, ov, iv] (setItem ov iv new); release [new, ov, iv] []; pure .next) := by intros; rfl) : FS X W (.AugAssign (.Subscript o i tpos) op e pos) (sAugS mo mi get m op' set) :=
  ⟨PS.wk (ps_augS ho.run hi.run hg he.run hp hs ha) fun D σ H h => by
    obtain ⟨η, S, σ0, hR, hS, p⟩ := h
    refine ⟨η, S, σ0, hR, hS, (PoS.expr (rel := VR) hS p).imp fun u1 H1 ⟨η1, S1, v1, e1, hR1, r1, p1⟩ => ?_⟩
    refine ⟨η1, S1, σ0, hR1, hS.mono e1.1, (PoS.expr (rel := VR) (hS.mono e1.1) p1).imp fun u2 H2 ⟨η2, S2, v2, e2, hR2, r2, p2⟩ => ?_⟩
    have f2 := e1.trans e2
    refine hgm W σ η2 S2 H2 v1 v2 u1 u2 _ hR2 (r1.mono e2.1) r2 ((PoS.expr (rel := VR) (hS.mono f2.1) p2).imp fun u3 H3 ⟨η3, S3, v3, e3, hR3, r3, p3⟩ => ?_)
    have f3 := f2.trans e3
    refine ⟨η3, S3, σ0, hR3, hS.mono f3.1, (PoS.expr (rel := VR) (hS.mono f3.1) p3).imp fun u4 H4 ⟨η4, S4, v4, e4, hR4, r4, p4⟩ => ?_⟩
    have f4 := f3.trans e4
    refine hpm W σ η4 S4 H4 v3 v4 u3 u4 _ hR4 (r3.mono e4.1) r4 ((PoS.expr (rel := VR) (hS.mono f4.1) p4).imp fun u5 H5 ⟨η5, S5, v5, e5, hR5, r5, p5⟩ => ?_)
    have f5 := f4.trans e5
    refine hsm W σ η5 S5 H5 v1 v2 v5 u1 u2 u5 _ hR5 (r1.mono (e2.1.trans (e3.1.trans (e4.1.trans e5.1)))) (r2.mono (e3.1.trans (e4.1.trans e5.1))) r5 ((PoS.expr (rel := fun _ _ (_ : Unit) => True) (hS.mono f5.1) p5).imp fun _ H6 ⟨η6, S6, _, e6, hR6, _, p6⟩ => ?_)
    exact p6.now hR6 (hS.mono (f5.1.trans e6.1))⟩
/-! a, b = x, y -/
def sPar (i j : Nat) (ma : St → Sto → R (List V)) : St → Sto → R Fl := fun σ S => sE (ma σ S) σ fun vs S1 => match vs with
  | [v, w] => .ok (.nx ((σ.set i (some v)).set j (some w))) S1
  | _ => .bad
theorem fs_par {i j : Nat} {x y : Str} {a b : Expr} {ma : St → Sto → R (List V)} {px py pt : Pos} {kt k2 pt2} (hc : X.calm = true) (hN : X.N.Nodup) (hi : X.N[i]? = some x) (hj : X.N[j]? = some y) (hij : i ≠ j)
    (hx : X.env.scope.names.lookup x = some .local) (hy : X.env.scope.names.lookup y = some .local) (ha : FA X W [a, b] ma)
    (hw : swappedStores [.Tuple [.Name x px, .Name y py] kt pt] (.Tuple [a, b] k2 pt2) X.env = pure (some [x, y]))
    (hs : swapsWithSole [.Tuple [.Name x px, .Name y py] kt pt] (.Tuple [a, b] k2 pt2) pos.line X.env = pure false := by rfl) :
    FS X W (.Assign [.Tuple [.Name x px, .Name y py] kt pt] (.Tuple [a, b] k2 pt2) pos) (sPar i j ma) := ⟨PS.wk (ps_par hc hN hi hj hij hx hy ha.run hw hs) fun D σ H h => by
  obtain ⟨η, S, σ0, hR, hS, p⟩ := h
  refine ⟨η, S, σ0, hR, hS, (PoS.expr (rel := VsR) hS p).imp fun u H1 ⟨η1, S1, v, e1, hR1, r1, p1⟩ => ?_⟩
  split at p1
  · obtain ⟨u1, u2, rfl, q1, q2⟩ := VsR.two r1
    exact ⟨u1, u2, rfl, p1.now hR1 (((hS.mono e1.1).set i q1).set j q2)⟩
  · exact p1.elim⟩
/-! raise -/
def sRs (c : String) : St → Sto → R Fl := fun σ S => .ok (.rs c σ) S
theorem fs_raise {C : Addr} {bmB : List Value} {B newId initId : String} {c : String} {x mm : Str} {j : Nat} {p p2 pos' : Pos} (hc : X.calm = true) (tk : Takes X W) (F : ExcBaseFacts B newId initId bmB) (q : PySem.W.excIn X.K C bmB newId = true) (gC : X.mg x = some (.ref C)) (kC : PySem.W.keepIn X.K (.ref C) = true) (r : Raises X (.ref C)) (hg : Gl X x)
    (hx : x = Str.ofString c := by rfl) (hdb : (x == ("__debug__" : Str)) = false := by decide) : FS X W (.Raise (some (.Call (.Name x p) [.Constant (.str mm) j p2] [] pos')) none pos) (sRs c) :=
  ⟨PS.wk (ps_raise hc tk (pmk_own F q gC kC r hg hdb)) fun D σ H h => by
    obtain ⟨η, S, σ0, hR, hS, p⟩ := h
    exact p η H σ C (Ext.refl _ _) hR hS (by rw [← hx]; exact gC)⟩
end
/-! ### a def -/
def finF (r : R Fl) : R V := match r with
  | .ok (.nx _) S' => .ok .non S'
  | .ok (.rt v) S' => .ok v S'
  | .ok (.rs c _) S' => .exc c S'
  | _ => .bad
def runF (n : Nat) (c : St → Sto → R Fl) (vs : List V) (S : Sto) : R V := finF (c (vs.map some ++ List.replicate (n - vs.length) none) S)
theorem SR.start {vs us : List V} (r : VsR η vs us) (N : List Str) : SR η (vs.map some ++ List.replicate (N.length - vs.length) none) (L2.start N us) := by
  unfold L2.start
  rw [r.length]
  refine papp ?_ ?_
  · induction r with
    | nil => exact .nil
    | cons r _ ih => exact .cons r ih
  · generalize N.length - us.length = k
    induction k with
    | zero => exact .nil
    | succ k ih => exact .cons trivial ih
variable {P : Program} {w : World} {mg : Str → Option Value} {base : Heap}
theorem fn_ok {x qual : Str} {st : Stmt} {f : Addr} {fd : FuncData} {N ps : List Str} {k : Nat} {c : St → Sto → R Fl} (F : Fun K x qual st f fd) (S : FnScope N ps (defScope st)) (n : Nat) (hn : ps.length = n) (nN : Nat) (hN : N.length = nN)
    (hbody : ∀ (cdv : Value) (A : Around) (outer : List Env) (s : Shared) (H : Hp) (E : XK), Room k (A.deeper (envOfC qual (defScope st) s.heap.objs.size f cdv)) → Takes (cxOf (L2.CX P w) P w K mg base N qual (defScope st) f cdv A outer s H E) (fun cls d _ H => E cls d H) →
      PassesOwn (model P w) (A.deeper (envOfC qual (defScope st) s.heap.objs.size f cdv)) (envOfC qual (defScope st) s.heap.objs.size f cdv) (cxOf (L2.CX P w) P w K mg base N qual (defScope st) f cdv A outer s H E).xe →
      FSs (cxOf (L2.CX P w) P w K mg base N qual (defScope st) f cdv A outer s H E) (fun cls d _ H => E cls d H) (defBody st) c) : FnOk P w K mg base (L2.CX P w) (k + 1) f fd ps (spM K mg n (runF nN c)) := by
  refine F.okX S (fun vs H Q E h => h.1.trans hn.symm) fun cdv A outer s H vs Q E hr h => ?_
  refine ⟨_, (hbody cdv A outer s H E hr (takes_of rfl rfl rfl rfl) (passes_of (X := cxOf (L2.CX P w) P w K mg base N qual (defScope st) f cdv A outer s H E) rfl)).run, ?_⟩
  obtain ⟨hl, η, S, vs0, hR, hv, p⟩ := h
  refine ⟨η, S, _, hR, SR.start hv N, ?_⟩
  unfold runF finF at p
  rw [← hN] at p
  cases e : c (vs0.map some ++ List.replicate (N.length - vs0.length) none) S with
  | ok fl S' =>
    rw [e] at p
    cases fl with
    | nx σ => exact fun η' H' σ1 e' r q => p η' H' .non e' r rfl
    | rt v => exact p
    | rs cc σ => exact fun η' H' σ1 C e' r q z => p η' H' C e' r z
    | bk σ => exact p.elim
    | ct σ => exact p.elim
  | exc cc S' => rw [e] at p; exact p.elim
  | bad => rw [e] at p; exact p.elim
/-! ### the law's end -/
theorem passL' {P : Program} {w : World} (H : Hp) (s : Shared) (e : Value) (s' : Shared) : L2.CX P w [] H s (fun _ _ _ => False) e s' → False := fun h => by
  obtain ⟨_, _, _, _, _, _, _, _, _, _, _, _, z⟩ := h
  exact z
/-- what is asked of the law's call -/
def spLw (K : PySem.W.Frag) (m : List V → Sto → R V) : Sp := fun vs H Q _ => ∃ (a : Addr) (ns : List Int), vs = [V.ref a] ∧ ns.length ≤ 63 ∧ Only H ∧ SqL K H a (ns.map V.int) ∧ (∃ S', m [.ref 0] [.frl (ns.map V.int)] = .ok (.bl true) S') ∧ ∀ H', Q (.bl true) H'
theorem spLw_imp {m : List V → Sto → R V} {vs : List V} {H : Hp} {Q : VK} {E : XK} (h : spLw K m vs H Q E) : spM K mg 1 m vs H Q E := by
  obtain ⟨a, ns, rfl, hl, ho, hS, h, q⟩ := h
  refine ⟨rfl, [a], [.frl (ns.map V.int)], [.ref 0], ⟨rfl, Nat.zero_lt_one, fun n b o e q => ?_, fun n o q => ?_, fun m n b h1 h2 e e' => ?_⟩, .cons ⟨a, rfl, rfl⟩ .nil, ?_⟩
  · cases n with
    | succ n => cases e
    | zero =>
      cases e; cases q
      refine ⟨by rw [List.length_map]; exact Nat.le_trans hl (by decide), ns.map V.int, ?_, ?_⟩
      · rcases hS with (h | ⟨o, h⟩) | h
        · rcases ho a with z | ⟨o, xs, z⟩
          · rw [z] at h; cases h
          · rw [z] at h; cases h
        · exact .inl ⟨o, h⟩
        · exact .inr (.inr h)
      · clear hS h hl
        induction ns with
        | nil => exact .nil
        | cons n ns ih => exact .cons rfl ih
  · cases n with
    | succ n => cases q
    | zero => cases q; exact ⟨fun _ => rfl, fun _ => rfl⟩
  · cases m with
    | zero => omega
    | succ m => cases e
  · obtain ⟨S', e⟩ := h
    rw [e]
    exact fun η' H' u _ _ r => by
      rw [show u = V.bl true from r]
      exact q H'
end Fx
/-! Fx: operators, built-ins, methods by values. -/
namespace Fx
open PySem PySem.Spec L2
open PyProof.Rows hiding St
variable {K : PySem.W.Frag} {η : List Addr} {S : Sto} {H : Hp}
section
variable {X : Cx}
/-! ### ints -/
def i2 (C : Int → Int → Bool) (g : Int → Int → V) : V → V → Sto → R V := fun x y S => match x, y with
  | .int i, .int j => if C i j = true then .ok (g i j) S else .bad
  | _, _ => .bad
theorem i2_ok {C : Int → Int → Prop} {C' : Int → Int → Bool} {g : Int → Int → V} (hc : ∀ i j, C' i j = true → C i j) (hg : ∀ i j, closedV (g i j) = true) : OpM X (rI C g) (i2 C' g) := by
  intro W σ η S H x y u v Q hR hx hy p
  unfold i2 at p
  split at p
  · rename_i i j
    split at p
    · rename_i h
      exact ⟨i, j, hx, hy, hc i j h, p.now hR (VR.closed (hg i j))⟩
    · exact p.elim
  · exact p.elim
def yes2 : Int → Int → Bool := fun _ _ => true
theorem i20_ok {g : Int → Int → V} (hg : ∀ i j, closedV (g i j) = true) : OpM X (rI0 g) (i2 yes2 g) := by
  intro W σ η S H x y u v Q hR hx hy p
  unfold i2 at p
  split at p
  · rename_i i j
    exact ⟨i, j, hx, hy, p.now hR (VR.closed (hg i j))⟩
  · exact p.elim
/-! ### lists and texts by + -/
def catM : V → V → Sto → R V := fun x y S => match x, y with
  | .ref a, .ref b => match S[a]?, S[b]? with
    | some (.lst xs), some (.lst ys) => if xs.length + ys.length ≤ lim then alloc (.lst (xs ++ ys)) S else .bad
    | _, _ => .bad
  | _, _ => .bad
theorem catM_ok : OpM X rCat catM := by
  intro W σ η S H x y u v Q hR hx hy p
  unfold catM at p
  split at p
  · rename_i a b
    split at p
    · rename_i xs ys h1 h2
      split at p
      · rename_i hl
        obtain ⟨a', ea, rfl⟩ := hx
        obtain ⟨b', eb, rfl⟩ := hy
        obtain ⟨z, us, e1, r1⟩ := hR.ob a a' _ ea h1
        obtain ⟨z2, vs, e2, r2⟩ := hR.ob b b' _ eb h2
        exact ⟨a', b', us, vs, rfl, rfl, e1, e2, by rw [← r1.length, ← r2.length]; exact hl, p.lst hR (papp r1 r2) (by rw [List.length_append]; exact hl)⟩
      · exact p.elim
    · exact p.elim
  · exact p.elim
def strM : V → V → Sto → R V := fun x y S => match x, y with
  | .str i, .str j => if i.length + j.length ≤ lim then .ok (.str (i ++ j)) S else .bad
  | _, _ => .bad
theorem strM_ok : OpM X (fun x y H Q => ∃ i j, x = .str i ∧ y = .str j ∧ i.length + j.length ≤ sizeLine ∧ Q (.str (i ++ j)) H) strM := by
  intro W σ η S H x y u v Q hR hx hy p
  unfold strM at p
  split at p
  · split at p
    · rename_i hl
      exact ⟨_, _, hx, hy, hl, p.now hR rfl⟩
    · exact p.elim
  · exact p.elim
def addM : V → V → Sto → R V := fun x y S => match x with
  | .int i => match y with
    | .int j => .ok (.int (i + j)) S
    | _ => .bad
  | .str _ => strM x y S
  | _ => catM x y S
theorem op_addA : OpR X (binaryOp .Add) (fun x y H Q => (∃ i j, x = .int i ∧ y = .int j ∧ Q (.int (i + j)) H) ∨ (∃ i j, x = .str i ∧ y = .str j ∧ i.length + j.length ≤ sizeLine ∧ Q (.str (i ++ j)) H) ∨ rCat x y H Q) := OpR.or op_add (OpR.or op_add_str op_cat)
theorem addM_ok : OpM X (fun x y H Q => (∃ i j, x = .int i ∧ y = .int j ∧ Q (.int (i + j)) H) ∨ (∃ i j, x = .str i ∧ y = .str j ∧ i.length + j.length ≤ sizeLine ∧ Q (.str (i ++ j)) H) ∨ rCat x y H Q) addM := by
  intro W σ η S H x y u v Q hR hx hy p
  cases x with
  | int i =>
    cases y with
    | int j => exact .inl ⟨i, j, hx, hy, p.now hR rfl⟩
    | _ => exact p.elim
  | str i => exact .inr (.inl (strM_ok W σ η S H _ y u v Q hR hx hy p))
  | _ => exact .inr (.inr (catM_ok W σ η S H _ y u v Q hR hx hy p))
@[simp] theorem addM_int (i j : Int) (S : Sto) : addM (.int i) (.int j) S = .ok (.int (i + j)) S := rfl
@[simp] theorem addM_ref (a : Nat) (y : V) (S : Sto) : addM (.ref a) y S = catM (.ref a) y S := rfl
@[simp] theorem addM_str (x : Str) (y : V) (S : Sto) : addM (.str x) y S = strM (.str x) y S := rfl
def subM : V → V → Sto → R V := i2 yes2 fun i j => .int (i - j)
@[simp] theorem subM_int (i j : Int) (S : Sto) : subM (.int i) (.int j) S = .ok (.int (i - j)) S := rfl
theorem subM_ok : OpM X (rI0 fun i j => .int (i - j)) subM := i20_ok fun _ _ => rfl
/-! * -/
def mulC (i j : Int) : Bool := decide (-(18446744073709551616) < i ∧ i < 18446744073709551616) || decide (-(18446744073709551616) < j ∧ j < 18446744073709551616) || decide (i.natAbs.log2 + j.natAbs.log2 < 1000000)
def repM : V → V → Sto → R V := fun x y S => match x, y with
  | .ref a, .int k => match S[a]? with
    | some (.lst xs) => if -1000 ≤ k ∧ k ≤ 1000 ∧ xs.length ≤ 1000 then alloc (.lst (List.replicate k.toNat xs).flatten) S else .bad
    | _ => .bad
  | _, _ => .bad
def mulM : V → V → Sto → R V := fun x y S => match x with
  | .int i => match y with
    | .int j => if mulC i j = true then .ok (.int (i * j)) S else .bad
    | _ => .bad
  | _ => repM x y S
theorem op_mulA : OpR X (binaryOp .Mult) (fun x y H Q => (rI CMul (fun i j => .int (i * j)) x y H Q ∨ rI CMulW (fun i j => .int (i * j)) x y H Q) ∨ rRep x y H Q) := OpR.or (OpR.or op_mul op_mulW) op_rep
theorem prep {α β : Type} {F : α → β → Prop} {xs : List α} {us : List β} (h : Paired F xs us) : ∀ k, Paired F (List.replicate k xs).flatten (List.replicate k us).flatten
  | 0 => .nil
  | k + 1 => by
    rw [List.replicate_succ, List.replicate_succ, List.flatten_cons, List.flatten_cons]
    exact papp h (prep h k)
theorem flat_len {α : Type} (xs : List α) : ∀ k, (List.replicate k xs).flatten.length = k * xs.length
  | 0 => by simp
  | k + 1 => by rw [List.replicate_succ, List.flatten_cons, List.length_append, flat_len xs k, Nat.succ_mul]; omega
theorem mulC_ok {i j : Int} (h : mulC i j = true) : CMul i j ∨ CMulW i j := by
  unfold mulC at h
  simp only [Bool.or_eq_true, decide_eq_true_eq] at h
  rcases h with (h | h) | h
  · exact .inl (.inl ⟨by omega, by omega⟩)
  · exact .inl (.inr ⟨by omega, by omega⟩)
  · exact .inr h
theorem repM_ok {W : WX} {σ : St} {x y u v : V} {Q : VK} (hR : Rel X.K η S H) (hx : VR η x u) (hy : VR η y v) (p : Po X.K X.mg W σ VR η H (repM x y S) Q) : rRep u v H Q := by
  unfold repM at p
  split at p
  · rename_i a k
    split at p
    · rename_i xs h1
      split at p
      · rename_i hk
        obtain ⟨a', ea, rfl⟩ := hx
        obtain ⟨z, us, e1, r1⟩ := hR.ob a a' _ ea h1
        have hb : xs.length * k.toNat ≤ sizeLine := by
          have h1 : xs.length * k.toNat ≤ 1000 * 1000 := Nat.mul_le_mul hk.2.2 (by omega)
          have : sizeLine = 16777216 := sizeLine_eq
          omega
        exact ⟨a', k, us, rfl, hy, e1, by omega, by omega, by rw [← r1.length]; exact hb, p.lst hR (prep r1 _) (by rw [flat_len, Nat.mul_comm]; exact hb)⟩
      · exact p.elim
    · exact p.elim
  · exact p.elim
theorem mulM_ok : OpM X (fun x y H Q => (rI CMul (fun i j => .int (i * j)) x y H Q ∨ rI CMulW (fun i j => .int (i * j)) x y H Q) ∨ rRep x y H Q) mulM := by
  intro W σ η S H x y u v Q hR hx hy p
  cases x with
  | int i =>
    cases y with
    | int j =>
      have p : Po X.K X.mg W σ VR η H (if mulC i j = true then .ok (.int (i * j)) S else .bad) Q := p
      split at p
      · rename_i h
        rcases mulC_ok h with h | h
        · exact .inl (.inl ⟨i, j, hx, hy, h, p.now hR rfl⟩)
        · exact .inl (.inr ⟨i, j, hx, hy, h, p.now hR rfl⟩)
      · exact p.elim
    | _ => exact p.elim
  | _ => exact .inr (repM_ok hR hx hy p)
theorem mulC_small {i j : Int} (h : -1000000000000000000 ≤ i ∧ i ≤ 1000000000000000000) : mulC i j = true := by
  unfold mulC
  simp only [Bool.or_eq_true, decide_eq_true_eq]
  exact .inl (.inl ⟨by omega, by omega⟩)
theorem mulC_small2 {i j : Int} (h : -1000000000000000000 ≤ j ∧ j ≤ 1000000000000000000) : mulC i j = true := by
  unfold mulC
  simp only [Bool.or_eq_true, decide_eq_true_eq]
  exact .inl (.inr ⟨by omega, by omega⟩)
/-! // % ** << >> & ^ -/
def divC (j : Int) : Bool := decide (0 < j) && decide (j.natAbs.log2 < 9000)
def fdivM : V → V → Sto → R V := i2 (fun _ j => divC j) fun i j => .int (i / j)
theorem fdivM_ok : OpM X (rI CDivW fun i j => .int (i / j)) fdivM := i2_ok (fun i j h => by
  simp only [divC, Bool.and_eq_true, decide_eq_true_eq] at h
  exact h) fun _ _ => rfl
theorem divC_small {j : Int} (h : 0 < j) (h2 : j < 18446744073709551616) : divC j = true := by
  simp only [divC, Bool.and_eq_true, decide_eq_true_eq]
  refine ⟨h, ?_⟩
  have : j.natAbs < 2 ^ 64 := by omega
  have := PySem.Flt.log2_lt_of (by decide : 0 < 64) this
  omega
def modM : V → V → Sto → R V := i2 (fun _ j => decide (0 < j)) fun i j => .int (i % j)
theorem modM_ok : OpM X (rI (fun _ j => 0 < j) fun i j => .int (i % j)) modM := i2_ok (fun i j h => by simpa using h) fun _ _ => rfl
def powC (i j : Int) : Bool := decide (0 ≤ j ∧ j ≤ 1000000 ∧ i.natAbs < 18446744073709551616)
theorem powC_ok (i j : Int) (h : powC i j = true) : CPow i j := by
  unfold powC at h
  have h := of_decide_eq_true h
  exact ⟨h.1, h.2.1, by have := h.2.2; omega⟩
def powM : V → V → Sto → R V := i2 powC fun i j => .int (i ^ j.toNat)
theorem powM_ok : OpM X (rI CPow fun i j => .int (i ^ j.toNat)) powM := i2_ok powC_ok fun _ _ => rfl
def shlM : V → V → Sto → R V := i2 powC fun i j => .int (i * 2 ^ j.toNat)
theorem shlM_ok : OpM X (rI CPow fun i j => .int (i * 2 ^ j.toNat)) shlM := i2_ok powC_ok fun _ _ => rfl
def shrM : V → V → Sto → R V := i2 (fun _ j => decide (0 ≤ j)) fun i j => .int (i / 2 ^ j.toNat)
theorem shrM_ok : OpM X (rI (fun _ j => 0 ≤ j) fun i j => .int (i / 2 ^ j.toNat)) shrM := i2_ok (fun i j h => by simpa using h) fun _ _ => rfl
def andM : V → V → Sto → R V := i2 yes2 fun i j => .int (Builtin.bitAnd i j)
theorem andM_ok : OpM X (rI0 fun i j => .int (Builtin.bitAnd i j)) andM := i20_ok fun _ _ => rfl
def xorM : V → V → Sto → R V := i2 yes2 fun i j => .int (Builtin.bitXor i j)
theorem xorM_ok : OpM X (rI0 fun i j => .int (Builtin.bitXor i j)) xorM := i20_ok fun _ _ => rfl
@[simp] theorem fdivM_int (i j : Int) (S : Sto) : fdivM (.int i) (.int j) S = if divC j = true then .ok (.int (i / j)) S else .bad := rfl
@[simp] theorem modM_int (i j : Int) (S : Sto) : modM (.int i) (.int j) S = if 0 < j then .ok (.int (i % j)) S else .bad := by
  show (if decide (0 < j) = true then _ else _) = _
  by_cases h : 0 < j <;> simp [h]
@[simp] theorem powM_int (i j : Int) (S : Sto) : powM (.int i) (.int j) S = if powC i j = true then .ok (.int (i ^ j.toNat)) S else .bad := rfl
@[simp] theorem mulM_int (i j : Int) (S : Sto) : mulM (.int i) (.int j) S = if mulC i j = true then .ok (.int (i * j)) S else .bad := rfl
@[simp] theorem mulM_ref (a : Nat) (y : V) (S : Sto) : mulM (.ref a) y S = repM (.ref a) y S := rfl
@[simp] theorem andM_int (i j : Int) (S : Sto) : andM (.int i) (.int j) S = .ok (.int (Builtin.bitAnd i j)) S := rfl
@[simp] theorem xorM_int (i j : Int) (S : Sto) : xorM (.int i) (.int j) S = .ok (.int (Builtin.bitXor i j)) S := rfl
def negM : V → Sto → R V := fun x S => match x with
  | .int i => .ok (.int (-i)) S
  | _ => .bad
theorem negM_ok : UnM X (rU fun i => .int (-i)) negM := by
  intro W σ η S H x u Q hR hx p
  cases x with
  | int i => exact ⟨i, hx, p.now hR rfl⟩
  | _ => exact p.elim
@[simp] theorem negM_int (i : Int) (S : Sto) : negM (.int i) S = .ok (.int (-i)) S := rfl
/-! ### comparisons -/
def ltM : V → V → Sto → R V := i2 yes2 fun i j => .bl (decide (i < j))
theorem ltM_ok : OpM X (rI0 fun i j => .bl (decide (i < j))) ltM := i20_ok fun _ _ => rfl
def leM : V → V → Sto → R V := i2 yes2 fun i j => .bl (decide (i ≤ j))
theorem leM_ok : OpM X (rI0 fun i j => .bl (decide (i ≤ j))) leM := i20_ok fun _ _ => rfl
def gtM : V → V → Sto → R V := i2 yes2 fun i j => .bl (decide (j < i))
theorem gtM_ok : OpM X (rI0 fun i j => .bl (decide (j < i))) gtM := i20_ok fun _ _ => rfl
def geM : V → V → Sto → R V := i2 yes2 fun i j => .bl (decide (j ≤ i))
theorem geM_ok : OpM X (rI0 fun i j => .bl (decide (j ≤ i))) geM := i20_ok fun _ _ => rfl
@[simp] theorem ltM_int (i j : Int) (S : Sto) : ltM (.int i) (.int j) S = .ok (.bl (decide (i < j))) S := rfl
@[simp] theorem leM_int (i j : Int) (S : Sto) : leM (.int i) (.int j) S = .ok (.bl (decide (i ≤ j))) S := rfl
@[simp] theorem gtM_int (i j : Int) (S : Sto) : gtM (.int i) (.int j) S = .ok (.bl (decide (j < i))) S := rfl
@[simp] theorem geM_int (i j : Int) (S : Sto) : geM (.int i) (.int j) S = .ok (.bl (decide (j ≤ i))) S := rfl
def isNM : V → V → Sto → R V := fun x y S => match y with
  | .non => .ok (.bl (decide (x = .non))) S
  | _ => .bad
def notNM : V → V → Sto → R V := fun x y S => match y with
  | .non => .ok (.bl (!decide (x = .non))) S
  | _ => .bad
theorem VR.non {x u : V} (h : VR η x u) : decide (u = .non) = decide (x = .non) := by
  cases x with
  | ref n => obtain ⟨a, _, rfl⟩ := h; rfl
  | _ => rw [show u = _ from h]
theorem isNM_ok : OpM X (fun x y H Q => y = .non ∧ Q (V.bl (decide (x = .non))) H) isNM := by
  intro W σ η S H x y u v Q hR hx hy p
  cases y with
  | non => exact ⟨hy, p.now hR (show V.bl (decide (u = .non)) = V.bl (decide (x = .non)) by rw [hx.non])⟩
  | _ => exact p.elim
theorem notNM_ok : OpM X (fun x y H Q => y = .non ∧ Q (V.bl (!decide (x = .non))) H) notNM := by
  intro W σ η S H x y u v Q hR hx hy p
  cases y with
  | non => exact ⟨hy, p.now hR (show V.bl (!decide (u = .non)) = V.bl (!decide (x = .non)) by rw [hx.non])⟩
  | _ => exact p.elim
/-- the data that a value stands for -/
def toD : Nat → Sto → V → Option PyData
  | 0, _, _ => none
  | n + 1, S, v => match v with
    | .non => some .none
    | .bl b => some (.bool b)
    | .int i => some (.int i)
    | .str x => some (.str x)
    | .ref a => match S[a]? with
      | some (.lst xs) => (xs.mapM (toD n S)).map .list
      | some (.frl xs) => (xs.mapM (toD n S)).map .list
      | some (.tup xs) => (xs.mapM (toD n S)).map .tuple
      | _ => none
    | _ => none
theorem toD_ok (hR : Rel K η S H) : ∀ (n : Nat) (v u : V) (d : PyData), toD n S v = some d → VR η v u → Dp K H u d
  | 0, _, _, _, h, _ => by cases h
  | n + 1, v, u, d, h, r => by
    have all : ∀ (xs us : List V) (ds : List PyData), xs.mapM (toD n S) = some ds → VsR η xs us → DpAll K H us ds := by
      intro xs
      induction xs with
      | nil =>
        intro us ds h r
        cases r
        simp at h
        subst h
        exact .nil
      | cons x xs ih =>
        intro us ds h r
        cases r with
        | cons r1 r2 =>
          rw [List.mapM_cons] at h
          cases hx : toD n S x with
          | none => rw [hx] at h; simp at h
          | some dx =>
            rw [hx] at h
            cases hxs : xs.mapM (toD n S) with
            | none => rw [hxs] at h; simp at h
            | some dxs =>
              rw [hxs] at h
              simp at h
              subst h
              exact .cons (toD_ok hR n x _ dx hx r1) (ih _ dxs hxs r2)
    cases v with
    | non => cases h; rw [show u = V.non from r]; exact .non
    | bl b => cases h; rw [show u = V.bl b from r]; exact .bl b
    | int b => cases h; rw [show u = V.int b from r]; exact .int b
    | str b => cases h; rw [show u = V.str b from r]; exact .str b
    | byt b => cases h
    | flt b => cases h
    | ty b => cases h
    | ref a =>
      have h : (match S[a]? with
        | some (.lst xs) => (xs.mapM (toD n S)).map .list
        | some (.frl xs) => (xs.mapM (toD n S)).map .list
        | some (.tup xs) => (xs.mapM (toD n S)).map .tuple
        | _ => none) = some d := h
      split at h
      · rename_i xs hx
        obtain ⟨a', us, rfl, e, r2, _⟩ := rdL_ok (v := .ref a) (xs := xs) (by simp [rdL, hx]) hR r
        cases hm : xs.mapM (toD n S) with
        | none => rw [hm] at h; cases h
        | some ds => rw [hm] at h; cases h; exact .lst e (all xs us ds hm r2)
      · rename_i xs hx
        obtain ⟨a', us, rfl, e, r2, _⟩ := rdL_ok (v := .ref a) (xs := xs) (by simp [rdL, hx]) hR r
        cases hm : xs.mapM (toD n S) with
        | none => rw [hm] at h; cases h
        | some ds => rw [hm] at h; cases h; exact .lst e (all xs us ds hm r2)
      · rename_i xs hx
        obtain ⟨a', us, rfl, e, r2, _⟩ := rdT_ok (v := .ref a) (xs := xs) (by simp [rdT, hx]) hR r
        cases hm : xs.mapM (toD n S) with
        | none => rw [hm] at h; cases h
        | some ds => rw [hm] at h; cases h; exact .tup (SqT.of e) (all xs us ds hm r2)
      · cases h
def eqB (x y : V) (S : Sto) : Option Bool := match toD 5 S x, toD 5 S y with
  | some d, some e => if SeqAt.shaped d = true ∧ SeqAt.shaped e = true then some (PyData.eqv d e) else none
  | _, _ => none
def eqM : V → V → Sto → R V := fun x y S => match eqB x y S with
  | some b => .ok (.bl b) S
  | none => .bad
def neM : V → V → Sto → R V := fun x y S => match eqB x y S with
  | some b => .ok (.bl (!b)) S
  | none => .bad
theorem eqB_ok {x y u v : V} {b : Bool} (hR : Rel K η S H) (hx : VR η x u) (hy : VR η y v) (h : eqB x y S = some b) : ∃ d e, Dp K H u d ∧ Dp K H v e ∧ SeqAt.shaped d = true ∧ SeqAt.shaped e = true ∧ b = PyData.eqv d e := by
  unfold eqB at h
  split at h
  · rename_i d e hd he
    split at h
    · rename_i hs
      cases h
      exact ⟨d, e, toD_ok hR 5 x u d hd hx, toD_ok hR 5 y v e he hy, hs.1, hs.2, rfl⟩
    · cases h
  · cases h
theorem eqM_ok : OpM X (rEqD X.K) eqM := by
  intro W σ η S H x y u v Q hR hx hy p
  unfold eqM at p
  cases h : eqB x y S with
  | none => rw [h] at p; exact p.elim
  | some b =>
    rw [h] at p
    obtain ⟨d, e, h1, h2, h3, h4, rfl⟩ := eqB_ok hR hx hy h
    exact ⟨d, e, h1, h2, h3, h4, p.now hR rfl⟩
theorem neM_ok : OpM X (rNeD X.K) neM := by
  intro W σ η S H x y u v Q hR hx hy p
  unfold neM at p
  cases h : eqB x y S with
  | none => rw [h] at p; exact p.elim
  | some b =>
    rw [h] at p
    obtain ⟨d, e, h1, h2, h3, h4, rfl⟩ := eqB_ok hR hx hy h
    exact ⟨d, e, h1, h2, h3, h4, p.now hR rfl⟩
@[simp] theorem eqM_int (i j : Int) (S : Sto) : eqM (.int i) (.int j) S = .ok (.bl (decide (i = j))) S := by
  show R.ok (V.bl (i == j)) S = _
  rw [Bool.beq_eq_decide_eq]
@[simp] theorem neM_int (i j : Int) (S : Sto) : neM (.int i) (.int j) S = .ok (.bl (!decide (i = j))) S := by
  show R.ok (V.bl (!(i == j))) S = _
  rw [Bool.beq_eq_decide_eq]
/-! ### in -/
def rdLT (v : V) (S : Sto) : Option (List V) := match v with
  | .ref n => match S[n]? with
    | some (.lst xs) => some xs
    | some (.frl xs) => some xs
    | some (.tup xs) => some xs
    | _ => none
  | _ => none
theorem rdLT_ok {v u : V} {xs : List V} (h : rdLT v S = some xs) (r : Rel K η S H) (q : VR η v u) : ∃ a us, u = .ref a ∧ (SqL K H a us ∨ SqT K H a us) ∧ VsR η xs us ∧ xs.length ≤ sizeLine := by
  cases v with
  | ref n =>
    unfold rdLT at h
    cases ho : S[n]? with
    | none => simp [ho] at h
    | some o =>
      cases o with
      | lst ys =>
        simp [ho] at h
        subst h
        obtain ⟨a, us, h1, h2, h3, h4⟩ := rdL_ok (v := .ref n) (xs := ys) (by simp [rdL, ho]) r q
        exact ⟨a, us, h1, .inl h2, h3, h4⟩
      | frl ys =>
        simp [ho] at h
        subst h
        obtain ⟨a, us, h1, h2, h3, h4⟩ := rdL_ok (v := .ref n) (xs := ys) (by simp [rdL, ho]) r q
        exact ⟨a, us, h1, .inl h2, h3, h4⟩
      | tup ys =>
        simp [ho] at h
        subst h
        obtain ⟨a, us, h1, h2, h3, h4⟩ := rdT_ok (v := .ref n) (xs := ys) (by simp [rdT, ho]) r q
        exact ⟨a, us, h1, .inr (SqT.of h2), h3, h4⟩
      | _ => simp [ho] at h
  | _ => cases h
theorem VR.flat {x u : V} (f : flatV x = true) (h : VR η x u) : u = x := by
  cases x with
  | ref n => cases f
  | byt n => cases f
  | _ => exact h
theorem VsR.flat {xs us : List V} (f : xs.all flatV = true) (h : VsR η xs us) : us = xs := by
  induction h with
  | nil => rfl
  | cons r t ih =>
    rw [List.all_cons, Bool.and_eq_true] at f
    rw [VR.flat f.1 r, ih f.2]
def inM (neg : Bool) : V → V → Sto → R V := fun x y S => match rdLT y S with
  | some xs => if flatV x = true ∧ xs.all flatV = true then .ok (.bl (if neg then !inV x xs else inV x xs)) S else .bad
  | none => .bad
theorem inM_ok {neg : Bool} : OpM X (rIn X.K neg) (inM neg) := by
  intro W σ η S H x y u v Q hR hx hy p
  unfold inM at p
  cases h : rdLT y S with
  | none => rw [h] at p; exact p.elim
  | some xs =>
    rw [h] at p
    dsimp only at p
    split at p
    · rename_i hf
      obtain ⟨a, us, rfl, hq, r, _⟩ := rdLT_ok h hR hy
      have e1 := VR.flat hf.1 hx
      have e2 := VsR.flat hf.2 r
      subst e1; subst e2
      exact ⟨a, us, rfl, hq, hf.1, hf.2, p.now hR rfl⟩
    · exact p.elim
/-! ### subscripts -/
def ixS (z : Str) : V → Sto → R V := fun y S => match y with
  | .int i => if z.length ≤ lim then (match atI z.cps.toList i with
      | some c => .ok (.str ⟨#[c]⟩) S
      | none => .bad) else .bad
  | _ => .bad
def ixQ (x : V) : V → Sto → R V := fun y S => match y with
  | .int i => match rdLT x S with
    | some xs => match atI xs i with
      | some v => .ok v S
      | none => .bad
    | none => .bad
  | _ => .bad
def ixM : V → V → Sto → R V := fun x y S => match x with
  | .str z => ixS z y S
  | x => ixQ x y S
@[simp] theorem ixM_ref (a : Nat) (y : V) (S : Sto) : ixM (.ref a) y S = ixQ (.ref a) y S := rfl
@[simp] theorem ixM_str (z : Str) (y : V) (S : Sto) : ixM (.str z) y S = ixS z y S := rfl
theorem pat {xs us : List V} {i : Int} {x : V} (h : VsR η xs us) (e : atI xs i = some x) : ∃ u, atI us i = some u ∧ VR η x u := by
  unfold atI at e ⊢
  rw [← h.length]
  cases hi : ixN xs.length i with
  | none => rw [hi] at e; cases e
  | some j =>
    rw [hi] at e
    exact pget h e
theorem ixQ_ok {W : WX} {σ : St} {x y u v : V} {Q : VK} (hR : Rel X.K η S H) (hx : VR η x u) (hy : VR η y v) (p : Po X.K X.mg W σ VR η H (ixQ x y S) Q) : rIx X.K u v H Q := by
  unfold ixQ at p
  split at p
  · split at p
    · rename_i i _ xs h
      split at p
      · rename_i w hw
        obtain ⟨a, us, rfl, hq, r, _⟩ := rdLT_ok h hR hx
        obtain ⟨w', e, rw'⟩ := pat r hw
        rcases hq with hq | hq
        · exact .inl ⟨a, us, _, w', rfl, hy, hq, e, p.now hR rw'⟩
        · exact .inr (.inl ⟨a, us, _, w', rfl, hy, hq, e, p.now hR rw'⟩)
      · exact p.elim
    · exact p.elim
  · exact p.elim
theorem ixS_ok {W : WX} {σ : St} {z : Str} {y u v : V} {Q : VK} (hR : Rel X.K η S H) (hx : VR η (.str z) u) (hy : VR η y v) (p : Po X.K X.mg W σ VR η H (ixS z y S) Q) : rIx X.K u v H Q := by
  unfold ixS at p
  split at p
  · split at p
    · rename_i hl
      split at p
      · rename_i c hc
        exact .inr (.inr ⟨z, _, c, hx, hy, hl, hc, p.now hR rfl⟩)
      · exact p.elim
    · exact p.elim
  · exact p.elim
theorem ixM_ok : OpM X (rIx X.K) ixM := by
  intro W σ η S H x y u v Q hR hx hy p
  cases x with
  | str z => exact ixS_ok hR hx hy p
  | _ => exact ixQ_ok hR hx hy p
theorem get_list : PGet X (rIxL X.K) := by
  intro pins s σ H o i ov iv Q I ro ri h
  obtain ⟨p, xs, k, z, rfl, rfl, hq, he, q⟩ := h
  cases ro
  obtain ⟨t, rfl⟩ := ri
  obtain ⟨its, r, pl, hz⟩ := I.list hq
  obtain ⟨j, h1, h2, h3, h4, h5⟩ := atI_get he
  obtain ⟨w, ew, rw'⟩ := r.get h2
  have hl := r.length
  have hn := line63
  have fin : EP X pins σ Q w s := ⟨z, H, I, rw', q⟩
  by_cases h0 : 0 ≤ k
  · have hj : k.toNat = j := by
      rw [seqIndex_of h0 h5] at h1
      exact Option.some.inj h1
    exact wpAny_getItem_list pl.isList h0 (by omega) (by rw [hj]; simpa using ew) fin
  · have hj : (k + (its.toArray.size : Int)).toNat = j := by
      rw [seqIndex_neg (by omega) h4] at h1
      rw [List.size_toArray, ← hl]
      exact Option.some.inj h1
    exact wpAny_getItem_list_neg pl.isList (by omega) (by rw [List.size_toArray]; omega) (by omega) (by rw [hj]; simpa using ew) fin
def getL : V → V → Sto → R V := fun x y S => match y with
  | .int i => match rdL x S with
    | some xs => match atI xs i with
      | some v => .ok v S
      | none => .bad
    | none => .bad
  | _ => .bad
theorem getL_ok : OpM X (rIxL X.K) getL := by
  intro W σ η S H x y u v Q hR hx hy p
  unfold getL at p
  split at p
  · rename_i i
    split at p
    · rename_i xs h
      split at p
      · rename_i w hw
        obtain ⟨a, us, rfl, hq, r, _⟩ := rdL_ok h hR hx
        obtain ⟨w', e, rw'⟩ := pat r hw
        exact ⟨a, us, i, w', rfl, hy, hq, e, p.now hR rw'⟩
      · exact p.elim
    · exact p.elim
  · exact p.elim
def ipAdd : V → V → Sto → R V := i2 yes2 fun i j => .int (i + j)
def ipSub : V → V → Sto → R V := i2 yes2 fun i j => .int (i - j)
theorem ipAdd_ok : IpM X (ipI fun i j => i + j) ipAdd := by
  intro W σ η S H x y u v Q hR hx hy p
  exact i20_ok (X := X) (g := fun i j => .int (i + j)) (fun _ _ => rfl) W σ η S H x y u v Q hR hx hy p
theorem ipSub_ok : IpM X (ipI fun i j => i - j) ipSub := by
  intro W σ η S H x y u v Q hR hx hy p
  exact i20_ok (X := X) (g := fun i j => .int (i - j)) (fun _ _ => rfl) W σ η S H x y u v Q hR hx hy p
@[simp] theorem ipAdd_int (i j : Int) (S : Sto) : ipAdd (.int i) (.int j) S = .ok (.int (i + j)) S := rfl
@[simp] theorem ipSub_int (i j : Int) (S : Sto) : ipSub (.int i) (.int j) S = .ok (.int (i - j)) S := rfl
/-! slices -/
def tPt (m : Option (St → Sto → R V)) : St → Sto → R (Option Int) := fun σ S => match m with
  | none => .ok none S
  | some m => (m σ S).bind fun v S1 => match v with
    | .int i => .ok (some i) S1
    | _ => .bad
structure FO (X : Cx) (W : WX) (e : Option Expr) (m : Option (St → Sto → R V)) : Prop where
  run : ∃ t, PO X e t ∧ ∀ η S H σ0 σ Q, Rel X.K η S H → SR η σ0 σ → Po X.K X.mg W σ (fun _ a b => b = a) η H (tPt m σ0 S) Q → t σ H Q
theorem fo_none {W : WX} : FO X W none none := ⟨_, po_none, fun η S H σ0 σ Q hR hS p => p.now hR rfl⟩
theorem fo_some {W : WX} {e : Expr} {m : St → Sto → R V} (h : FE X W e m) : FO X W (some e) (some m) := ⟨_, po_some h.run, fun η S H σ0 σ Q hR hS p => by
  refine ⟨η, S, σ0, hR, hS, (Po.bind (rel := VR) p).imp fun u H1 ⟨η1, S1, v, e1, hR1, r1, p1⟩ => ?_⟩
  cases v with
  | int i => exact ⟨i, r1, p1.now hR1 rfl⟩
  | _ => exact p1.elim⟩
def cutM : V → Option Int → Option Int → Sto → R V := fun x lo hi S => match x with
  | .ref n => match rdL x S with
    | some xs => alloc (.lst (cutV xs lo hi)) S
    | none => match rdT x S with
      | some xs => if HT.sIx xs.length 0 lo = 0 ∧ HT.sIx xs.length xs.length hi = xs.length then .bad else alloc (.tup (cutV xs lo hi)) S
      | none => .bad
  | .str z => if z.length ≤ lim then .ok (.str (cutS z lo hi)) S else .bad
  | _ => .bad
def eSl (m : St → Sto → R V) (ml mh : Option (St → Sto → R V)) : St → Sto → R V := fun σ S => (m σ S).bind fun x S1 => (tPt ml σ S1).bind fun lo S2 => (tPt mh σ S2).bind fun hi S3 => cutM x lo hi S3
theorem pcut {xs us : List V} {lo hi : Option Int} (h : VsR η xs us) : VsR η (cutV xs lo hi) (cutV us lo hi) := by
  unfold cutV
  rw [← h.length]
  exact ptake _ (pdrop _ h)
end
end Fx
/-! Fx: built-ins and methods by values. -/
namespace Fx
open PySem PySem.Spec L2
open PyProof.Rows hiding St
variable {K : PySem.W.Frag} {η : List Addr} {S : Sto} {H : Hp}
section
variable {X : Cx}
/-! slices -/
theorem fe_sl {W : WX} {e : Expr} {lo hi : Option Expr} {m : St → Sto → R V} {ml mh : Option (St → Sto → R V)} {pos p2 : Pos} (he : FE X W e m) (hl : FO X W lo ml) (hh : FO X W hi mh) : FE X W (.Subscript e (.Slice lo hi none p2) pos) (eSl m ml mh) := by
  obtain ⟨tl, h1, h2⟩ := hl.run
  obtain ⟨th, h3, h4⟩ := hh.run
  refine ⟨PE.wk (pe_slice (sl_list.or (sl_tup.or sl_str)) he.run h1 h3) fun σ H Q h => ?_⟩
  obtain ⟨η, S, σ0, hR, hS, p⟩ := h
  refine ⟨η, S, σ0, hR, hS, (Po.bind (rel := VR) p).imp fun u H1 ⟨η1, S1, x, e1, hR1, rx, p1⟩ => ?_⟩
  refine h2 η1 S1 H1 σ0 σ _ hR1 (hS.mono e1.1) ((Po.bind (rel := fun _ a b => b = a) p1).imp fun l H2 ⟨η2, S2, l', e2, hR2, rl, p2⟩ => ?_)
  subst rl
  refine h4 η2 S2 H2 σ0 σ _ hR2 (hS.mono (e1.1.trans e2.1)) ((Po.bind (rel := fun _ a b => b = a) p2).imp fun g H3 ⟨η3, S3, g', e3, hR3, rg, p3⟩ => ?_)
  subst rg
  have rx := rx.mono (e2.1.trans e3.1)
  unfold cutM at p3
  cases x with
  | ref n =>
    dsimp only at p3
    cases hd : rdL (.ref n) S3 with
    | some xs =>
      rw [hd] at p3
      obtain ⟨a, us, rfl, hq, r, z⟩ := rdL_ok hd hR3 rx
      exact .inl ⟨a, us, rfl, hq, p3.lst hR3 (pcut r) (Nat.le_trans (cutV_length _ _ _) z)⟩
    | none =>
      rw [hd] at p3
      dsimp only at p3
      cases ht : rdT (.ref n) S3 with
      | some xs =>
        rw [ht] at p3
        dsimp only at p3
        split at p3
        · exact p3.elim
        · rename_i hw
          obtain ⟨a, us, rfl, hq, r, z⟩ := rdT_ok ht hR3 rx
          exact .inr (.inl ⟨a, us, rfl, SqT.of hq, by rw [← r.length]; exact hw, p3.tup hR3 (pcut r) (Nat.le_trans (cutV_length _ _ _) z)⟩)
      | none => rw [ht] at p3; exact p3.elim
  | str z =>
    dsimp only at p3
    split at p3
    · rename_i hz
      exact .inr (.inr ⟨z, rx, hz, p3.now hR3 rfl⟩)
    · exact p3.elim
  | _ => exact p3.elim
/-! ### built-ins -/
def lenM : List V → Sto → R V := fun vs S => match vs with
  | [.str z] => if z.length ≤ lim then .ok (.int z.length) S else .bad
  | [x] => match rdLT x S with
    | some xs => .ok (.int xs.length) S
    | none => .bad
  | _ => .bad
theorem lenM_ok : CallM X (fun xs H Q => ∃ x n, xs = [x] ∧ LenV X.K x H n ∧ Q (.int n) H) lenM := by
  intro W σ η S H xs us Q hR hx p
  unfold lenM at p
  split at p
  · rename_i z
    obtain ⟨u, rfl, r⟩ := VsR.one hx
    cases (show u = V.str z from r)
    split at p
    · rename_i hz
      exact ⟨_, _, rfl, ⟨hz, rfl⟩, p.now hR rfl⟩
    · exact p.elim
  · rename_i x _
    obtain ⟨u, rfl, r⟩ := VsR.one hx
    split at p
    · rename_i xs h
      obtain ⟨a, us, rfl, hq, r2, _⟩ := rdLT_ok h hR r
      refine ⟨_, us.length, rfl, ?_, p.now hR (show V.int us.length = V.int xs.length by rw [r2.length])⟩
      rcases hq with hq | hq
      · exact .inl ⟨us, hq, rfl⟩
      · exact .inr ⟨us, hq, rfl⟩
    · exact p.elim
  · exact p.elim
def listM : List V → Sto → R V := fun vs S => match vs with
  | [x] => match rdLT x S with
    | some xs => alloc (.lst xs) S
    | none => .bad
  | _ => .bad
theorem listM_ok : CallM X (fun xs H Q => ∃ p ys, xs = [.ref p] ∧ (SqL X.K H p ys ∨ SqT X.K H p ys) ∧ ∀ l, H l = none → Q (.ref l) (upd H l (.lst ys))) listM := by
  intro W σ η S H xs us Q hR hx p
  unfold listM at p
  split at p
  · rename_i x
    obtain ⟨u, rfl, r⟩ := VsR.one hx
    split at p
    · rename_i xs h
      obtain ⟨a, us, rfl, hq, r2, z⟩ := rdLT_ok h hR r
      exact ⟨a, us, rfl, hq, p.lst hR r2 z⟩
    · exact p.elim
  · exact p.elim
def tupleM : List V → Sto → R V := fun vs S => match vs with
  | [x] => match rdL x S with
    | some xs => alloc (.tup xs) S
    | none => match rdT x S with
      | some _ => .ok x S
      | none => .bad
  | _ => .bad
theorem tupleM_ok : CallM X (fun xs H Q => ∃ p ys, xs = [.ref p] ∧ ((SqL X.K H p ys ∧ ∀ l, H l = none → Q (.ref l) (upd H l (.tup ys))) ∨ (SqT X.K H p ys ∧ Q (.ref p) H))) tupleM := by
  intro W σ η S H xs us Q hR hx p
  unfold tupleM at p
  split at p
  · rename_i x
    obtain ⟨u, rfl, r⟩ := VsR.one hx
    split at p
    · rename_i xs h
      obtain ⟨a, us, rfl, hq, r2, z⟩ := rdL_ok h hR r
      exact ⟨a, us, rfl, .inl ⟨hq, p.tup hR r2 z⟩⟩
    · split at p
      · rename_i xs h
        obtain ⟨a, us, rfl, hq, r2, z⟩ := rdT_ok h hR r
        exact ⟨a, us, rfl, .inr ⟨SqT.of hq, p.now hR r⟩⟩
      · exact p.elim
  · exact p.elim
/-- all ints -/
def allI : List V → Option (List Int)
  | [] => some []
  | .int i :: vs => (allI vs).map (i :: ·)
  | _ :: _ => none
theorem allI_eq : ∀ {vs : List V} {ns : List Int}, allI vs = some ns → vs = ns.map V.int
  | [], ns, h => by cases h; rfl
  | .int i :: vs, ns, h => by
    unfold allI at h
    cases e : allI vs with
    | none => rw [e] at h; cases h
    | some ms => rw [e] at h; cases h; rw [allI_eq e]; rfl
  | .non :: _, _, h => by cases h
  | .bl _ :: _, _, h => by cases h
  | .str _ :: _, _, h => by cases h
  | .byt _ :: _, _, h => by cases h
  | .flt _ :: _, _, h => by cases h
  | .ref _ :: _, _, h => by cases h
  | .ty _ :: _, _, h => by cases h
@[simp] theorem allI_map : ∀ ns : List Int, allI (ns.map V.int) = some ns
  | [] => rfl
  | n :: ns => by
    show (allI (ns.map V.int)).map (n :: ·) = _
    rw [allI_map ns]; rfl
theorem VsR.ints {ns : List Int} {us : List V} (h : VsR η (ns.map V.int) us) : us = ns.map V.int := by
  refine VsR.flat ?_ h
  rw [List.all_map]
  exact List.all_eq_true.mpr fun _ _ => rfl
def rdI (x : V) (S : Sto) : Option (List Int) := (rdL x S).bind allI
theorem rdI_ok {x u : V} {ns : List Int} (h : rdI x S = some ns) (hR : Rel K η S H) (r : VR η x u) : ∃ a, u = .ref a ∧ SqL K H a (ns.map V.int) ∧ ns.length ≤ sizeLine := by
  unfold rdI at h
  cases e : rdL x S with
  | none => rw [e] at h; cases h
  | some xs =>
    rw [e] at h
    have e2 := allI_eq (show allI xs = some ns from h)
    subst e2
    obtain ⟨a, us, rfl, hq, r2, z⟩ := rdL_ok e hR r
    rw [VsR.ints r2] at hq
    exact ⟨a, rfl, hq, by simpa using z⟩
def sumM : List V → Sto → R V := fun vs S => match vs with
  | [x] => match rdI x S with
    | some ns => .ok (.int ns.sum) S
    | none => .bad
  | _ => .bad
theorem sumM_ok : CallM X (rSum X.K) sumM := by
  intro W σ η S H xs us Q hR hx p
  unfold sumM at p
  split at p
  · rename_i x
    obtain ⟨u, rfl, r⟩ := VsR.one hx
    split at p
    · rename_i ns h
      obtain ⟨a, rfl, hq, _⟩ := rdI_ok h hR r
      exact ⟨a, ns, rfl, hq, p.now hR rfl⟩
    · exact p.elim
  · exact p.elim
def maxL : List Int → Int
  | [] => 0
  | n :: ns => ns.foldl max n
def minL : List Int → Int
  | [] => 0
  | n :: ns => ns.foldl min n
theorem foldl_max (ns : List Int) : ∀ n : Int, (ns.foldl max n = n ∨ ns.foldl max n ∈ ns) ∧ n ≤ ns.foldl max n ∧ ∀ y ∈ ns, y ≤ ns.foldl max n := by
  induction ns with
  | nil => intro n; exact ⟨.inl rfl, Int.le_refl _, fun _ h => nomatch h⟩
  | cons k ns ih =>
    intro n
    obtain ⟨h1, h2, h3⟩ := ih (max n k)
    rw [List.foldl_cons]
    refine ⟨?_, by omega, fun y hy => ?_⟩
    · rcases h1 with h1 | h1
      · by_cases h : n ≤ k
        · right; rw [h1, Int.max_eq_right h]; exact List.mem_cons_self
        · left; rw [h1, Int.max_eq_left (by omega)]
      · right; exact List.mem_cons_of_mem _ h1
    · rcases List.mem_cons.mp hy with rfl | hy
      · omega
      · exact h3 y hy
theorem foldl_min (ns : List Int) : ∀ n : Int, (ns.foldl min n = n ∨ ns.foldl min n ∈ ns) ∧ ns.foldl min n ≤ n ∧ ∀ y ∈ ns, ns.foldl min n ≤ y := by
  induction ns with
  | nil => intro n; exact ⟨.inl rfl, Int.le_refl _, fun _ h => nomatch h⟩
  | cons k ns ih =>
    intro n
    obtain ⟨h1, h2, h3⟩ := ih (min n k)
    rw [List.foldl_cons]
    refine ⟨?_, by omega, fun y hy => ?_⟩
    · rcases h1 with h1 | h1
      · by_cases h : n ≤ k
        · left; rw [h1, Int.min_eq_left h]
        · right; rw [h1, Int.min_eq_right (by omega)]; exact List.mem_cons_self
      · right; exact List.mem_cons_of_mem _ h1
    · rcases List.mem_cons.mp hy with rfl | hy
      · omega
      · exact h3 y hy
theorem maxL_spec {ns : List Int} (h : 0 < ns.length) : maxL ns ∈ ns ∧ ∀ y ∈ ns, y ≤ maxL ns := by
  cases ns with
  | nil => cases h
  | cons n ns =>
    obtain ⟨h1, h2, h3⟩ := foldl_max ns n
    refine ⟨?_, fun y hy => ?_⟩
    · rcases h1 with h1 | h1
      · show ns.foldl max n ∈ _
        rw [h1]; exact List.mem_cons_self
      · exact List.mem_cons_of_mem _ h1
    · rcases List.mem_cons.mp hy with rfl | hy
      · exact h2
      · exact h3 y hy
theorem minL_spec {ns : List Int} (h : 0 < ns.length) : minL ns ∈ ns ∧ ∀ y ∈ ns, minL ns ≤ y := by
  cases ns with
  | nil => cases h
  | cons n ns =>
    obtain ⟨h1, h2, h3⟩ := foldl_min ns n
    refine ⟨?_, fun y hy => ?_⟩
    · rcases h1 with h1 | h1
      · show ns.foldl min n ∈ _
        rw [h1]; exact List.mem_cons_self
      · exact List.mem_cons_of_mem _ h1
    · rcases List.mem_cons.mp hy with rfl | hy
      · exact h2
      · exact h3 y hy
def maxM : List V → Sto → R V := fun vs S => match vs with
  | [.int i, .int j] => .ok (.int (if j > i then j else i)) S
  | [x] => match rdI x S with
    | some ns => if 0 < ns.length then .ok (.int (maxL ns)) S else .bad
    | none => .bad
  | _ => .bad
def minM : List V → Sto → R V := fun vs S => match vs with
  | [.int i, .int j] => .ok (.int (if j < i then j else i)) S
  | [x] => match rdI x S with
    | some ns => if 0 < ns.length then .ok (.int (minL ns)) S else .bad
    | none => .bad
  | _ => .bad
theorem call_maxA (hc : X.calm = true) : CallR X (.builtin "max") (fun xs H Q => (∃ i j, xs = [.int i, .int j] ∧ Q (.int (if j > i then j else i)) H) ∨ rMax X.K xs H Q) := CallR.or (call_max2 hc) (cr_max hc)
theorem call_minA (hc : X.calm = true) : CallR X (.builtin "min") (fun xs H Q => (∃ i j, xs = [.int i, .int j] ∧ Q (.int (if j < i then j else i)) H) ∨ rMin X.K xs H Q) := CallR.or (call_min2 hc) (cr_min hc)
theorem maxM_ok : CallM X (fun xs H Q => (∃ i j, xs = [.int i, .int j] ∧ Q (.int (if j > i then j else i)) H) ∨ rMax X.K xs H Q) maxM := by
  intro W σ η S H xs us Q hR hx p
  unfold maxM at p
  split at p
  · rename_i i j
    rw [VsR.int2 hx]
    exact .inl ⟨i, j, rfl, p.now hR rfl⟩
  · rename_i x
    obtain ⟨u, rfl, r⟩ := VsR.one hx
    split at p
    · rename_i ns h
      split at p
      · rename_i h0
        obtain ⟨a, rfl, hq, _⟩ := rdI_ok h hR r
        obtain ⟨m1, m2⟩ := maxL_spec h0
        refine .inr ⟨a, ns, rfl, hq, h0, fun m hm hle => ?_⟩
        have : m = maxL ns := Int.le_antisymm (m2 m hm) (hle _ m1)
        rw [this]
        exact p.now hR rfl
      · exact p.elim
    · exact p.elim
  · exact p.elim
theorem minM_ok : CallM X (fun xs H Q => (∃ i j, xs = [.int i, .int j] ∧ Q (.int (if j < i then j else i)) H) ∨ rMin X.K xs H Q) minM := by
  intro W σ η S H xs us Q hR hx p
  unfold minM at p
  split at p
  · rename_i i j
    rw [VsR.int2 hx]
    exact .inl ⟨i, j, rfl, p.now hR rfl⟩
  · rename_i x
    obtain ⟨u, rfl, r⟩ := VsR.one hx
    split at p
    · rename_i ns h
      split at p
      · rename_i h0
        obtain ⟨a, rfl, hq, _⟩ := rdI_ok h hR r
        obtain ⟨m1, m2⟩ := minL_spec h0
        refine .inr ⟨a, ns, rfl, hq, h0, fun m hm hle => ?_⟩
        have : m = minL ns := Int.le_antisymm (hle _ m1) (m2 m hm)
        rw [this]
        exact p.now hR rfl
      · exact p.elim
    · exact p.elim
  · exact p.elim
def absM : List V → Sto → R V := fun vs S => match vs with
  | [.int i] => .ok (.int (if i < 0 then -i else i)) S
  | _ => .bad
theorem absM_ok : CallM X (fun xs H Q => ∃ i, xs = [.int i] ∧ Q (.int (if i < 0 then -i else i)) H) absM := by
  intro W σ η S H xs us Q hR hx p
  unfold absM at p
  split at p
  · rw [VsR.int1 hx]
    exact ⟨_, rfl, p.now hR rfl⟩
  · exact p.elim
def intM : List V → Sto → R V := fun vs S => match vs with
  | [.int i] => .ok (.int i) S
  | [.bl k] => .ok (.int (if k then 1 else 0)) S
  | _ => .bad
theorem intM_ok : CallM X (fun xs H Q => (∃ i, xs = [.int i] ∧ Q (.int i) H) ∨ ∃ k, xs = [.bl k] ∧ Q (.int (if k then 1 else 0)) H) intM := by
  intro W σ η S H xs us Q hR hx p
  unfold intM at p
  split at p
  · rw [VsR.int1 hx]
    exact .inl ⟨_, rfl, p.now hR rfl⟩
  · obtain ⟨u, rfl, r⟩ := VsR.one hx
    rw [show u = _ from r]
    exact .inr ⟨_, rfl, p.now hR rfl⟩
  · exact p.elim
/-! sorted -/
def upS (ns : List Int) : List Int := ns.mergeSort fun a b => decide (a ≤ b)
def dnS (ns : List Int) : List Int := ns.mergeSort fun a b => decide (b ≤ a)
theorem upS_perm (ns : List Int) : (upS ns).Perm ns := List.mergeSort_perm _ _
theorem dnS_perm (ns : List Int) : (dnS ns).Perm ns := List.mergeSort_perm _ _
theorem upS_sorted (ns : List Int) : (upS ns).Pairwise (· ≤ ·) := by
  have h := List.pairwise_mergeSort (le := fun a b : Int => decide (a ≤ b)) (fun a b c h1 h2 => by simp at *; omega) (fun a b => by simp; omega) ns
  exact h.imp fun h => by simpa using h
theorem dnS_sorted (ns : List Int) : (dnS ns).Pairwise (· ≥ ·) := by
  have h := List.pairwise_mergeSort (le := fun a b : Int => decide (b ≤ a)) (fun a b c h1 h2 => by simp at *; omega) (fun a b => by simp; omega) ns
  exact h.imp fun h => by simpa using h
theorem upS_unique {a b : List Int} (hp : a.Perm b) (ha : a.Pairwise (· ≤ ·)) : a = upS b :=
  List.Perm.eq_of_pairwise (le := fun a b : Int => a ≤ b) (fun x y _ _ h1 h2 => Int.le_antisymm h1 h2) ha (upS_sorted b) (hp.trans (upS_perm b).symm)
theorem dnS_unique {a b : List Int} (hp : a.Perm b) (ha : a.Pairwise (· ≥ ·)) : a = dnS b :=
  List.Perm.eq_of_pairwise (le := fun a b : Int => a ≥ b) (fun x y _ _ h1 h2 => Int.le_antisymm h2 h1) ha (dnS_sorted b) (hp.trans (dnS_perm b).symm)
theorem VsR.mapI (η : List Addr) : ∀ ns : List Int, VsR η (ns.map V.int) (ns.map V.int)
  | [] => .nil
  | _ :: ns => .cons rfl (VsR.mapI η ns)
def sortM : List V → Sto → R V := fun vs S => match vs with
  | [x] => match rdI x S with
    | some ns => alloc (.lst ((upS ns).map V.int)) S
    | none => .bad
  | _ => .bad
theorem sortM_ok : CallM X (rSortedI X.K) sortM := by
  intro W σ η S H xs us Q hR hx p
  unfold sortM at p
  split at p
  · rename_i x
    obtain ⟨u, rfl, r⟩ := VsR.one hx
    split at p
    · rename_i ns h
      obtain ⟨a, rfl, hq, hl⟩ := rdI_ok h hR r
      refine ⟨a, ns, rfl, hq, fun ns' q hp ho hn => ?_⟩
      rw [upS_unique hp ho]
      exact p.lst hR (VsR.mapI η _) (by rw [List.length_map, (upS_perm ns).length_eq]; exact hl) q hn
    · exact p.elim
  · exact p.elim
def sortDM : List V → Sto → R V := fun vs S => match vs with
  | [x] => match rdI x S with
    | some ns => alloc (.lst ((dnS ns).map V.int)) S
    | none => .bad
  | _ => .bad
/-- sorted(e, reverse=True) -/
theorem fe_sortD {W : WX} {e : Expr} {m : St → Sto → R V} {p pos kp : Pos} {j : Nat} {cp : Pos} (hg : Gl X "sorted") (hm : X.mg "sorted" = none) (hv : bootBuiltins "sorted" = some (.builtin "sorted")) (he : FE X W e m)
    (h1 : backTo pos (starEach [e] X.env) = (false, eval e X.env) :: backTo pos (starEach [] X.env) := by rfl) (h1' : starEach [e] X.env = (false, eval e X.env) :: starEach [] X.env := by rfl) (h2 : (backTo pos (starEach [e] X.env)).any (·.1) = false := by rfl)
    (h3 : (backToKw pos (keywordEach [⟨some "reverse", .Constant (.bool true) j cp, kp⟩] X.env)).all (·.1.isSome) = true := by rfl) (h4 : (backToKw pos (keywordEach [⟨some "reverse", .Constant (.bool true) j cp, kp⟩] X.env)).any (·.1.isNone) = false := by rfl) (h5 : (backToKw pos (keywordEach [⟨some "reverse", .Constant (.bool true) j cp, kp⟩] X.env)).filterMap (·.1) = [Str.ofString "reverse"] := by rfl) :
    FE X W (.Call (.Name "sorted" p) [e] [⟨some "reverse", .Constant (.bool true) j cp, kp⟩] pos) (eA sortDM (aCons m aNil)) :=
  ⟨PE.wk (pe_callBK (cr_sortedRev (b := true)) hg hm hv (fa_cons he fa_nil h1').run (pk_cons pe_bl pk_nil) (by decide) (by decide) h1 h2 h3 h4 h5) fun σ H Q h => by
    obtain ⟨η, S, σ0, hR, hS, p⟩ := h
    refine ⟨η, S, σ0, hR, hS, (Po.bind (rel := VsR) p).imp fun us H1 ⟨η1, S1, vs, e1, hR1, r1, p1⟩ => ?_⟩
    show rSortedKw X.K true [.bl true] us [.bl true] H1 Q
    unfold sortDM at p1
    split at p1
    · rename_i x
      obtain ⟨u, rfl, r⟩ := VsR.one r1
      split at p1
      · rename_i ns h
        obtain ⟨a, rfl, hq, hl⟩ := rdI_ok h hR1 r
        refine ⟨a, ns, rfl, rfl, hq, fun ns' q hp ho hn => ?_⟩
        rw [dnS_unique hp ho]
        exact p1.lst hR1 (VsR.mapI η1 _) (by rw [List.length_map, (dnS_perm ns).length_eq]; exact hl) q hn
      · exact p1.elim
    · exact p1.elim⟩
/-! isinstance -/
def tyN (x : V) (S : Sto) : Option String := match x with
  | .non => some "NoneType"
  | .bl _ => some "bool"
  | .int _ => some "int"
  | .str _ => some "str"
  | .ref n => match S[n]? with
    | some (.lst _) => some "list"
    | some (.tup _) => some "tuple"
    | some (.dK _) => some "dict"
    | some (.dT _) => some "dict"
    | _ => none
  | _ => none
def isB (a b : String) : Option Bool :=
  if a ∈ ["NoneType", "bool", "int", "str", "list", "tuple", "dict"] ∧ b ∈ ["bool", "int", "str", "list", "tuple", "dict"] then some (decide (a = b) || (decide (a = "bool") && decide (b = "int"))) else none
theorem isB_ok {a b : String} {r : Bool} (h : isB a b = some r) : kitB a b = some r := by
  unfold isB at h
  split at h
  · rename_i hm
    cases h
    have all : ∀ a ∈ ["NoneType", "bool", "int", "str", "list", "tuple", "dict"], ∀ b ∈ ["bool", "int", "str", "list", "tuple", "dict"], kitB a b = some (decide (a = b) || (decide (a = "bool") && decide (b = "int"))) := by decide +kernel
    exact all a hm.1 b hm.2
  · cases h
theorem tyN_ok {x u : V} {t : String} (h : tyN x S = some t) (hR : Rel K η S H) (r : VR η x u) : TyX K H u (.type t) := by
  cases x with
  | non => cases h; rw [show u = _ from r]; exact .base .non
  | bl b => cases h; rw [show u = _ from r]; exact .base (.bl b)
  | int b => cases h; rw [show u = _ from r]; exact .base (.int b)
  | str b => cases h; rw [show u = _ from r]; exact .base (.str b)
  | ref n =>
    obtain ⟨a, ea, rfl⟩ := r
    obtain ⟨o, ho, x⟩ := hR.obj ea
    have h : (match S[n]? with
      | some (.lst _) => some "list"
      | some (.tup _) => some "tuple"
      | some (.dK _) => some "dict"
      | some (.dT _) => some "dict"
      | _ => none) = some t := h
    rw [ho] at h
    cases o with
    | lst xs => cases h; obtain ⟨_, us, e, _⟩ := x; exact .base (.lst e)
    | tup xs => cases h; obtain ⟨_, us, e, _⟩ := x; exact .base (.tup e)
    | frl xs => cases h
    | dK xs => cases h; obtain ⟨_, us, e, _⟩ := x; exact .base (.dK e)
    | dT xs => cases h; obtain ⟨_, us, e, _⟩ := x; exact .base (.dT e)
    | fD xs => cases h
    | tab xs q => cases h
    | dN xs => cases h
  | _ => cases h
def isiM : List V → Sto → R V := fun vs S => match vs with
  | [x, .ty b] => match tyN x S with
    | some t => match isB t b with
      | some r => .ok (.bl r) S
      | none => .bad
    | none => .bad
  | _ => .bad
theorem isiM_ok : CallM X (rIsi X.K) isiM := by
  intro W σ η S H xs us Q hR hx p
  unfold isiM at p
  split at p
  · rename_i x b
    obtain ⟨u, v, rfl, r1, r2⟩ := VsR.two hx
    split at p
    · rename_i t ht
      split at p
      · rename_i r hr
        exact ⟨u, v, _, _, r, rfl, by rw [show v = V.ty b from r2]; exact .ty b, tyN_ok ht hR r1, kit_ty (isB_ok hr), p.now hR rfl⟩
      · exact p.elim
    · exact p.elim
  · exact p.elim
/-! ### methods of lists -/
def isLs (x : V) (S : Sto) : Bool := (rdL x S).isSome
theorem isLs_ok : TyM X "list" isLs := by
  intro η S H x u hR r h
  unfold isLs at h
  cases e : rdL x S with
  | none => rw [e] at h; cases h
  | some xs =>
    obtain ⟨a, us, rfl, hq, _⟩ := rdL_ok e hR r
    exact .inl ⟨rfl, us, hq⟩
/-- a change of a list -/
def chL (x : V) (S : Sto) (f : List V → Option (List V × V)) : R V := match x with
  | .ref n => match S[n]? with
    | some (.lst xs) => match f xs with
      | some (ys, v) => .ok v (S.set n (.lst ys))
      | none => .bad
    | _ => .bad
  | _ => .bad
theorem chL_ok {W : WX} {σ : St} {x u : V} {f : List V → Option (List V × V)} {Q : VK} (hR : Rel X.K η S H) (r : VR η x u) (p : Po X.K X.mg W σ VR η H (chL x S f) Q) :
    ∃ n a xs us ys v, x = .ref n ∧ u = .ref a ∧ H a = some (.lst us) ∧ VsR η xs us ∧ f xs = some (ys, v) ∧ xs.length ≤ sizeLine ∧ ∀ vs w, VsR η ys vs → VR η v w → ys.length ≤ sizeLine → Q w (upd H a (.lst vs)) := by
  unfold chL at p
  split at p
  · rename_i n
    split at p
    · rename_i xs hx
      split at p
      · rename_i ys v hf
        obtain ⟨a, ea, rfl⟩ := r
        obtain ⟨z, us, e2, r2⟩ := hR.ob n a _ ea hx
        refine ⟨n, a, xs, us, ys, v, rfl, rfl, e2, r2, hf, z, fun vs w r3 rw' hl => ?_⟩
        exact p η _ w (Ext.set hR ea hx rfl) (hR.set ea hx rfl ⟨hl, _, upd_same, r3⟩ rfl) rw'
      · exact p.elim
    · exact p.elim
  · exact p.elim
def appM : V → List V → Sto → R V := fun x vs S => match vs with
  | [y] => chL x S fun xs => if xs.length < lim then some (xs ++ [y], .non) else none
  | _ => .bad
theorem appM_ok : MtM X rAppend appM := by
  intro W σ η S H x u xs us Q hR rx rs p
  unfold appM at p
  split at p
  · rename_i y
    obtain ⟨v, rfl, ry⟩ := VsR.one rs
    obtain ⟨n, a, xs, us, ys, w, rfl, rfl, e, r, hf, hl, q⟩ := chL_ok hR rx p
    split at hf
    · rename_i hlt
      cases hf
      exact ⟨a, us, v, rfl, rfl, e, by rw [← r.length]; exact hlt, q _ _ (papp r (.cons ry .nil)) rfl (by rw [List.length_append]; exact hlt)⟩
    · cases hf
  · exact p.elim
def clearM : V → List V → Sto → R V := fun x vs S => match vs with
  | [] => chL x S fun _ => some ([], .non)
  | _ => .bad
theorem clearM_ok : MtM X rClear clearM := by
  intro W σ η S H x u xs us Q hR rx rs p
  unfold clearM at p
  split at p
  · obtain ⟨n, a, xs, us, ys, w, rfl, rfl, e, r, hf, hl, q⟩ := chL_ok hR rx p
    cases hf
    cases rs
    exact ⟨a, us, rfl, rfl, e, q _ _ .nil rfl (Nat.zero_le _)⟩
  · exact p.elim
def reverseM : V → List V → Sto → R V := fun x vs S => match vs with
  | [] => chL x S fun xs => some (xs.reverse, .non)
  | _ => .bad
theorem reverseM_ok : MtM X rReverse reverseM := by
  intro W σ η S H x u xs us Q hR rx rs p
  unfold reverseM at p
  split at p
  · obtain ⟨n, a, xs, us, ys, w, rfl, rfl, e, r, hf, hl, q⟩ := chL_ok hR rx p
    cases hf
    cases rs
    exact ⟨a, us, rfl, rfl, e, q _ _ (prev r) rfl (by rw [List.length_reverse]; exact hl)⟩
  · exact p.elim
def popAtM : V → List V → Sto → R V := fun x vs S => match vs with
  | [.int i] => if -1000000 ≤ i ∧ i ≤ 1000000 then chL x S (fun xs => match ixN xs.length i with
    | some j => match xs[j]? with
      | some y => some (xs.eraseIdx j, y)
      | none => none
    | none => none) else .bad
  | _ => .bad
theorem popAtM_ok : MtM X rPopAt popAtM := by
  intro W σ η S H x u xs us Q hR rx rs p
  unfold popAtM at p
  split at p
  · split at p
    · rename_i i hi
      obtain ⟨n, a, xs, us, ys, w, rfl, rfl, e, r, hf, hl, q⟩ := chL_ok hR rx p
      rw [VsR.int1 rs]
      split at hf
      · rename_i j hj
        split at hf
        · rename_i y hy
          cases hf
          obtain ⟨h1, h2, h3, h4⟩ := ixN_seq hj
          obtain ⟨w', hw, rw'⟩ := pget r hy
          exact ⟨a, us, i, j, w', rfl, rfl, e, by omega, by omega, by rw [← r.length]; exact h1, hw, q _ _ (perase j r) rw' (Nat.le_trans (List.length_eraseIdx_le _ _) hl)⟩
        · cases hf
      · cases hf
    · exact p.elim
  · exact p.elim
def popM : V → List V → Sto → R V := fun x vs S => match vs with
  | [] => chL x S (fun xs => match xs[xs.length - 1]? with
      | some y => some (xs.dropLast, y)
      | none => none)
  | _ => .bad
theorem pdropLast {xs us : List V} (h : VsR η xs us) : VsR η xs.dropLast us.dropLast := by
  rw [List.dropLast_eq_take, List.dropLast_eq_take, h.length]
  exact ptake _ h
theorem popM_ok : MtM X rPop popM := by
  intro W σ η S H x u xs us Q hR rx rs p
  unfold popM at p
  split at p
  · obtain ⟨n, a, xs, us, ys, w, rfl, rfl, e, r, hf, hl, q⟩ := chL_ok hR rx p
    cases rs
    split at hf
    · rename_i y hy
      cases hf
      obtain ⟨w', hw, rw'⟩ := pget r hy
      exact ⟨a, us, w', rfl, rfl, e, by rw [← r.length]; exact hw, q _ _ (pdropLast r) rw' (by rw [List.length_dropLast]; omega)⟩
    · cases hf
  · exact p.elim
def extendM : V → List V → Sto → R V := fun x vs S => match vs with
  | [.ref b] => match S[b]? with
    | some (.lst zs) => chL x S fun xs => if xs.length + zs.length ≤ lim then some (xs ++ zs, .non) else none
    | _ => .bad
  | _ => .bad
theorem extendM_ok : MtM X rExtend extendM := by
  intro W σ η S H x u xs us Q hR rx rs p
  unfold extendM at p
  split at p
  · rename_i b
    obtain ⟨v, rfl, ry⟩ := VsR.one rs
    split at p
    · rename_i zs hz
      obtain ⟨c, ec, rfl⟩ := ry
      obtain ⟨_, vs, e3, r3⟩ := hR.ob b c _ ec hz
      obtain ⟨n, a, xs, us, ys, w, rfl, rfl, e, r, hf, hl, q⟩ := chL_ok hR rx p
      split at hf
      · rename_i hlt
        cases hf
        exact ⟨a, c, us, vs, rfl, rfl, e, e3, by rw [← r.length, ← r3.length]; exact hlt, q _ _ (papp r r3) rfl (by rw [List.length_append]; exact hlt)⟩
      · cases hf
    · exact p.elim
  · exact p.elim
end
end Fx
/-! Fx: defs by name; the law's row. -/
namespace Fx
open PySem PySem.Spec L2
open PyProof.Rows hiding St
/-- the def x of the module, called with n arguments, does what m says -/
structure Df (P : Program) (w : World) (K : PySem.W.Frag) (mg : Str → Option Value) (base : Heap) (x : Str) (k n : Nat) (m : List V → Sto → R V) : Prop where
  ex : ∃ (f : Addr) (fd : FuncData) (ps : List Str), FnOk P w K mg base (L2.CX P w) k f fd ps (spM K mg n m) ∧ mg x = some (.ref f) ∧ PySem.W.keepIn K (.ref f) = true ∧ Binds K fd ps []
def eCl (n : Nat) (m : List V → Sto → R V) (ma : St → Sto → R (List V)) : St → Sto → R V := fun σ S => (ma σ S).bind fun vs S1 => if vs.length = n then m vs S1 else .bad
theorem fe_call' {X : Cx} {W : WX} {e : Expr} {pos : Pos} {x : Str} {p : Pos} {es : List Expr} {j k n : Nat} {m : List V → Sto → R V} {mr : St → Sto → R (List V)} (D : Df X.prog X.w X.K X.mg X.base x k n m) (hr : Room j X.A) (hj : k ≤ j) (hg : Gl X x)
    (tk : Takes X W) (ha : FA X W (e :: es) mr) (hl : (e :: es).length = n := by rfl) (hdb : (x == ("__debug__" : Str)) = false := by decide)
    (he : starEach (e :: es) X.env = (false, eval e X.env) :: starEach es X.env := by rfl) (hpl : (backTo pos (starEach es X.env)).any (·.1) = false := by rfl) : FE X W (.Call (.Name x p) (e :: es) [] pos) (eCl n m mr) := by
  obtain ⟨f, fd, ps, h1, h2, h3, h4⟩ := D.ex
  exact fe_call h1 (hr.mono hj) hg h2 h3 h4 tk ha hl hdb he hpl
section
variable {X : Cx} {W : WX} {a b : Expr} {ma mb : St → Sto → R V} {pos : Pos}
theorem tV_of {m : St → Sto → R V} {t : TE} (h : ∀ σ H Q, lfE X W m σ H Q → t σ H Q) {σ : St} {H : Hp} {Q : Bool → Hp → Prop} (q : lfT X W (tV m) σ H Q) : tTest t σ H Q := by
  refine h σ H _ ?_
  obtain ⟨η, S, σ0, hR, hS, p⟩ := q
  refine ⟨η, S, σ0, hR, hS, (Po.bind (rel := VR) p).imp fun u H1 ⟨η1, S1, v, e1, hR1, r1, p1⟩ => ?_⟩
  cases v with
  | bl c => exact ⟨c, r1, p1.now hR1 rfl⟩
  | _ => exact p1.elim
theorem ft_cmp {op : CmpOp} {r : R2} {m : V → V → Sto → R V} (ho : OpR X (compareOp op) r) (hm : OpM X r m) (ha : FE X W a ma) (hb : FE X W b mb) (hk : behindInMarks op b = false := by first | exact nobehind _ (by decide) (by decide) | rfl) : FT X W (.Compare a [op] [b] pos) (tV (eO m ma mb)) :=
  ⟨PT.wk (pt_cmpR ho ha.run hb.run hk) fun σ H Q h => tV_of (fun σ H Q h => lf_bin hm h) h⟩
theorem ft_chain {c : Expr} {mc : St → Sto → R V} {op op' : CmpOp} {r r' : R2} {m m' : V → V → Sto → R V} (ho : OpR X (compareOp op) r) (hm : OpM X r m) (ho' : OpR X (compareOp op') r') (hm' : OpM X r' m') (ha : FE X W a ma) (hb : FE X W b mb) (hc : FE X W c mc) (hmk : lastMarks [op, op'] [b, c] = false := by with_unfolding_all rfl) : FT X W (.Compare a [op, op'] [b, c] pos) (tV (eCh m m' ma mb mc)) :=
  ⟨PT.wk (pt_chain ho ho' ha.run hb.run hc.run hmk) fun σ H Q h => tV_of (fun σ H Q h => lf_ch hm hm' h) h⟩
end
end Fx
/-! Fx: more words: list(range(..)), reversed, enumerate, remove; own exceptions: raise, try. -/
namespace Fx
open PySem PySem.Spec L2
open PyProof.Rows hiding St
variable {K : PySem.W.Frag} {η : List Addr} {S : Sto} {H : Hp}
section
variable {X : Cx} {W : WX} {a b : Expr} {ma mb : St → Sto → R V} {pos pos2 p p2 : Pos}
/-! list(range(..)) -/
def rgC (lo hi : Int) : Bool := decide (0 ≤ lo ∧ lo ≤ 1000000 ∧ 0 ≤ hi ∧ hi ≤ 1000000)
def lrM (lo hi : Int) (S : Sto) : R V := if rgC lo hi = true then alloc (.lst (rgV lo hi)) S else .bad
theorem rgC_ok {lo hi : Int} (h : rgC lo hi = true) : RgOk lo hi := by
  have h := of_decide_eq_true h
  exact RgOk.of_le h.1 (by omega) (by omega) h.2.2.1
theorem VsR.rg (lo hi : Int) : VsR η (rgV lo hi) (rgV lo hi) := by
  unfold rgV
  generalize (List.range (hi - lo).toNat) = l
  induction l with
  | nil => exact .nil
  | cons x l ih => exact .cons rfl ih
theorem lrM_ok {σ : St} {lo hi : Int} {Q : VK} (hR : Rel X.K η S H) (p : Po X.K X.mg W σ VR η H (lrM lo hi S) Q) : RgOk lo hi ∧ ∀ q, H q = none → Q (.ref q) (upd H q (.lst (rgV lo hi))) := by
  unfold lrM at p
  split at p
  · rename_i h
    have h1 := rgC_ok h
    exact ⟨h1, p.lst hR (VsR.rg lo hi) (by rw [rgV_length, sizeLine_eq]; exact h1.2.2.2.2)⟩
  · exact p.elim
def eLR1 (m : St → Sto → R V) : St → Sto → R V := fun σ S => (m σ S).bind fun x S1 => match x with
  | .int n => lrM 0 n S1
  | _ => .bad
def eLR2 (m m2 : St → Sto → R V) : St → Sto → R V := fun σ S => (m σ S).bind fun x S1 => (m2 σ S1).bind fun y S2 => match x, y with
  | .int i, .int j => lrM i j S2
  | _, _ => .bad
theorem fe_lr1 (hc : X.calm = true) (hg : Gl X "list") (hm : X.mg "list" = none) (hg2 : Gl X "range") (hm2 : X.mg "range" = none) (ha : FE X W a ma)
    (na : starEach [a] X.env = (false, eval a X.env) :: starEach [] X.env := by rfl) (na2 : starEach [.Call (.Name "range" p2) [a] [] pos2] X.env = (false, eval (.Call (.Name "range" p2) [a] [] pos2) X.env) :: starEach [] X.env := by rfl) :
    FE X W (.Call (.Name "list" p) [.Call (.Name "range" p2) [a] [] pos2] [] pos) (eLR1 ma) := ⟨PE.wk (pe_listRg hc hg hm (prg_1 hg2 hm2 ha.run na) na2) fun σ H Q h => by
  obtain ⟨η, S, σ0, hR, hS, p⟩ := h
  refine ⟨η, S, σ0, hR, hS, (Po.bind (rel := VR) p).imp fun u H1 ⟨η1, S1, v, e1, hR1, r1, p1⟩ => ?_⟩
  cases v with
  | int n => exact ⟨n, r1, lrM_ok hR1 p1⟩
  | _ => exact p1.elim⟩
theorem fe_lr2 (hc : X.calm = true) (hg : Gl X "list") (hm : X.mg "list" = none) (hg2 : Gl X "range") (hm2 : X.mg "range" = none) (ha : FE X W a ma) (hb : FE X W b mb)
    (na : starEach [a, b] X.env = (false, eval a X.env) :: starEach [b] X.env := by rfl) (nb : starEach [b] X.env = (false, eval b X.env) :: starEach [] X.env := by rfl) (nc : (backTo pos2 (starEach [b] X.env)).any (·.1) = false := by rfl)
    (na2 : starEach [.Call (.Name "range" p2) [a, b] [] pos2] X.env = (false, eval (.Call (.Name "range" p2) [a, b] [] pos2) X.env) :: starEach [] X.env := by rfl) :
    FE X W (.Call (.Name "list" p) [.Call (.Name "range" p2) [a, b] [] pos2] [] pos) (eLR2 ma mb) := ⟨PE.wk (pe_listRg hc hg hm (prg_2 hg2 hm2 ha.run hb.run na nb nc) na2) fun σ H Q h => by
  obtain ⟨η, S, σ0, hR, hS, p⟩ := h
  refine ⟨η, S, σ0, hR, hS, (Po.bind (rel := VR) p).imp fun u H1 ⟨η1, S1, v, e1, hR1, r1, p1⟩ => ?_⟩
  refine ⟨η1, S1, σ0, hR1, hS.mono e1.1, (Po.bind (rel := VR) p1).imp fun u2 H2 ⟨η2, S2, w, e2, hR2, r2, p2⟩ => ?_⟩
  cases v with
  | int i =>
    cases w with
    | int j => exact ⟨i, j, r1, r2, lrM_ok hR2 p2⟩
    | _ => exact p2.elim
  | _ => exact p2.elim⟩
/-! for x in reversed(xs) -/
def iRv (m : St → Sto → R V) : St → Sto → R AI := fun σ S => (m σ S).bind fun v S1 => match rdL v S1 with
  | some xs => .ok (xs.reverse.map .one, fun S => rdL v S == some xs) S1
  | none => .bad
theorem JR.rev {v u : V} {xs : List V} (h : rdL v S = some xs) (r : Rel K η S H) (q : VR η v u) : ∃ a us, u = .ref a ∧ SqL K H a us ∧ us.length = xs.length ∧ JR K η (xs.reverse.map .one, fun S => rdL v S == some xs) (Itv K a us.length) := by
  obtain ⟨a, us, rfl, hq, r2, z⟩ := rdL_ok h r q
  have hl := r2.length
  refine ⟨a, us, rfl, hq, hl.symm, by simpa using z, fun η' S' H' i it he hR hc hi => ?_, fun η' S' H' he hR hc => ?_⟩
  · have hc : rdL v S' = some xs := by simpa using hc
    obtain ⟨a', us', e', hq', r', z'⟩ := rdL_ok hc hR (q.mono he)
    cases e'
    have hl' := r'.length
    have hi : (xs.reverse.map Itm.one)[i]? = some it := hi
    rw [List.getElem?_map] at hi
    cases hx : xs.reverse[i]? with
    | none => rw [hx] at hi; cases hi
    | some x =>
      rw [hx] at hi
      cases hi
      have hi2 : i < xs.length := by
        have := (List.getElem?_eq_some_iff.mp hx).1
        simpa using this
      rw [List.getElem?_reverse hi2] at hx
      obtain ⟨w, hw, rw'⟩ := pget r' hx
      rw [hl] at hw
      refine ⟨⟨by omega, us', w, hq', hw⟩, fun y H2 hy => ?_⟩
      obtain ⟨rfl, hy⟩ := hy
      have := (hy us' hq').symm.trans hw
      cases this
      exact ⟨rfl, rw'⟩
  · show us.length ≤ (xs.reverse.map Itm.one).length
    rw [List.length_map, List.length_reverse]; omega
theorem fi_rev {tg : Expr} (hg : Gl X "reversed") (hm : X.mg "reversed" = none) (h : FE X W a ma) (hs : starEach [a] X.env = (false, eval a X.env) :: starEach [] X.env := by rfl) : FI X W tg (.Call (.Name "reversed" p) [a] [] pos) (iRv ma) := ⟨_, RT.pi_revA hg hm h.run hs, fun σ H Q h => by
  obtain ⟨η, S, σ0, hR, hS, p⟩ := h
  refine ⟨η, S, σ0, hR, hS, (Po.bind (rel := VR) p).imp fun u H1 ⟨η1, S1, v, e1, hR1, r1, p1⟩ => ?_⟩
  cases e : rdL v S1 with
  | none => rw [e] at p1; exact p1.elim
  | some xs =>
    rw [e] at p1
    obtain ⟨a, us, rfl, hq, hl, j⟩ := JR.rev e hR1 r1
    exact ⟨a, us, rfl, .inl ⟨hq, p1.now hR1 j⟩⟩⟩
/-! for i, x in enumerate(xs) -/
def enumI (xs : List V) : List Itm := xs.zipIdx.map fun p => .many [.int (p.2 : Nat), p.1]
def iEn (m : St → Sto → R V) : St → Sto → R AI := fun σ S => (m σ S).bind fun v S1 => match rdL v S1 with
  | some xs => .ok (enumI xs, fun S => rdL v S == some xs) S1
  | none => .bad
theorem enumI_len (xs : List V) : (enumI xs).length = xs.length := by simp [enumI]
theorem JR.enum {v u : V} {xs : List V} (h : rdL v S = some xs) (r : Rel K η S H) (q : VR η v u) : ∃ a us, u = .ref a ∧ SqL K H a us ∧ JR K η (enumI xs, fun S => rdL v S == some xs) (Ite K a) := by
  obtain ⟨a, us, rfl, hq, r2, z⟩ := rdL_ok h r q
  refine ⟨a, us, rfl, hq, by show (enumI xs).length ≤ _; rw [enumI_len]; exact z, fun η' S' H' i it he hR hc hi => ?_, fun η' S' H' he hR hc => ?_⟩
  · have hc : rdL v S' = some xs := by simpa using hc
    obtain ⟨a', us', e', hq', r', z'⟩ := rdL_ok hc hR (q.mono he)
    cases e'
    have hi : (enumI xs)[i]? = some it := hi
    unfold enumI at hi
    rw [List.getElem?_map, List.getElem?_zipIdx] at hi
    cases hx : xs[i]? with
    | none => rw [hx] at hi; cases hi
    | some x =>
      rw [hx] at hi
      cases hi
      obtain ⟨w, hw, rw'⟩ := pget r' hx
      refine ⟨⟨us', w, hq', hw⟩, fun y H2 hy => ?_⟩
      obtain ⟨T, x2, rfl, hT, rfl, f1⟩ := hy
      have e1 := (f1 us' hq').symm.trans hw
      cases e1
      exact ⟨T, [.int (i : Nat), w], rfl, hT, rfl, .cons (by show V.int _ = V.int _; rw [Nat.zero_add]) (.cons rw' .nil)⟩
  · have hc : rdL v S' = some xs := by simpa using hc
    obtain ⟨a', us', e', hq', r', z'⟩ := rdL_ok hc hR (q.mono he)
    cases e'
    refine ⟨us', hq', ?_⟩
    show us'.length ≤ (enumI xs).length
    rw [enumI_len, r'.length]; exact Nat.le_refl _
theorem fi_enum {elts : List Expr} {kk : Nat} {tpos : Pos} (hg : Gl X "enumerate") (hm : X.mg "enumerate" = none) (h : FE X W a ma) (hs : starEach [a] X.env = [(false, eval a X.env)] := by rfl) (hs' : starEach [a] X.env = (false, eval a X.env) :: starEach [] X.env := by rfl) :
    FI X W (.Tuple elts kk tpos) (.Call (.Name "enumerate" p) [a] [] pos) (iEn ma) := ⟨_, pi_enum hg hm (fa_cons h fa_nil hs').run hs, fun σ H Q h => by
  obtain ⟨η, S, σ0, hR, hS, p⟩ := h
  refine ⟨η, S, σ0, hR, hS, ?_⟩
  have p' : Po X.K X.mg W σ (JR X.K) η H ((aCons ma aNil σ0 S).bind fun vs S1 => match vs with
    | [v] => (match rdL v S1 with
      | some xs => R.ok (enumI xs, fun S => rdL v S == some xs) S1
      | none => .bad)
    | _ => .bad) Q := by
    unfold iEn at p
    unfold aCons aNil
    cases e : ma σ0 S with
    | ok v S1 => rw [e] at p; exact p
    | exc c S1 => rw [e] at p; exact p
    | bad => rw [e] at p; exact p
  refine (Po.bind (rel := VsR) p').imp fun us H1 ⟨η1, S1, vs, e1, hR1, r1, p1⟩ => ?_
  split at p1
  · rename_i v
    obtain ⟨u, rfl, r⟩ := VsR.one r1
    cases e : rdL v S1 with
    | none => rw [e] at p1; exact p1.elim
    | some xs =>
      rw [e] at p1
      obtain ⟨a, us, rfl, hq, j⟩ := JR.enum e hR1 r
      exact ⟨a, us, rfl, hq, p1.now hR1 j⟩
  · exact p1.elim⟩
/-! remove of an int that is there -/
def removeM : V → List V → Sto → R V := fun x vs S => match vs with
  | [.int k] => chL x S fun xs => match allI xs with
    | some ns => if k ∈ ns then some ((ns.erase k).map V.int, .non) else none
    | none => none
  | _ => .bad
theorem removeM_ok : MtM X rRemI removeM := by
  intro W σ η S H x u xs us Q hR rx rs p
  unfold removeM at p
  split at p
  · rename_i k
    obtain ⟨n, a, xs, us, ys, w, rfl, rfl, e, r, hf, hl, q⟩ := chL_ok hR rx p
    rw [VsR.int1 rs]
    split at hf
    · rename_i ns hns
      split at hf
      · rename_i hk
        cases hf
        rw [allI_eq hns] at r hl
        rw [VsR.ints r] at e
        obtain ⟨j, j1, j2, j3, j4⟩ := first_at hk
        refine ⟨a, ns, k, j, rfl, rfl, e, j2, j3, ?_⟩
        rw [j4]
        exact q _ _ (VsR.mapI η _) rfl (by rw [List.length_map] at *; exact Nat.le_trans (List.length_erase_le) hl)
      · cases hf
    · cases hf
  · exact p.elim
end
/-! ### own exceptions -/
/-- the class c can be raised -/
structure OwnC (K : PySem.W.Frag) (mg : Str → Option Value) (c : String) : Prop where
  ex : ∃ C : Addr, mg (Str.ofString c) = some (.ref C) ∧ PySem.W.excIn K C [.type "ValueError", .type "Exception", .type "BaseException", .type "object"] "ValueError.__new__" = true ∧ PySem.W.keepIn K (.ref C) = true ∧
    PySem.W.subIn K (.ref C) (.type "BaseException") = some true ∧ PySem.W.typeIn K (.ref C) = some (.type "type")
theorem fs_raise' {X : Cx} {W : WX} {c : String} {x mm : Str} {j : Nat} {p p2 pos pos' : Pos} (hc : X.calm = true) (tk : Takes X W) (O : OwnC X.K X.mg c) (hg : Gl X x) (hx : x = Str.ofString c := by rfl) (hdb : (x == ("__debug__" : Str)) = false := by decide) :
    FS X W (.Raise (some (.Call (.Name x p) [.Constant (.str mm) j p2] [] pos')) none pos) (sRs c) := by
  obtain ⟨C, h1, h2, h3, h4, h5⟩ := O.ex
  exact fs_raise hc tk PySem.F.excBase_ValueError h2 (by rw [hx]; exact h1) h3 (raises_own h4 h5) hg hx hdb
/-- all own classes stand right under MixError, it under ValueError -/
def subE (c h : String) : Bool := c == h || h == "MixError" || h == "ValueError"
/-- how an except clause for h (whose value is hv) takes the classes of cs -/
def HdE (K : PySem.W.Frag) (mg : Str → Option Value) (cs : List String) (h : String) (hv : Value) : Prop := ∀ c ∈ cs, ∀ C : Addr, mg (Str.ofString c) = some (.ref C) → PySem.W.exmOne K (.ref C) hv = some (subE c h)
def noRs (r : R Fl) : R Fl := match r with
  | .ok (.rs _ _) _ => .bad
  | r => r
def sTry (cs : List String) (h : String) (body suite : St → Sto → R Fl) : St → Sto → R Fl := fun σ S => match body σ S with
  | .ok (.rs c σ1) S1 => if cs.contains c = true then (if subE c h = true then noRs (suite σ1 S1) else .ok (.rs c σ1) S1) else .bad
  | r => r
def sTryA (cs : List String) (h : String) (i : Nat) (body : St → Sto → R Fl) (suite : String → St → St) : St → Sto → R Fl := fun σ S => match body σ S with
  | .ok (.rs c σ1) S1 => if cs.contains c = true ∧ i < σ1.length then (if subE c h = true then .ok (.nx ((suite c (σ1.set i none)).set i none)) S1 else .ok (.rs c σ1) S1) else .bad
  | r => r
theorem lfS_nx {X : Cx} {W : WX} {D : Ends} {r : R Fl} (p : PoS X W D η H (noRs r)) : PoS X W0 D η H r := by
  unfold noRs at p
  split at p
  · exact p.elim
  · rename_i h
    cases r with
    | ok f S' =>
      cases f with
      | rs c σ => exact (h c σ S' rfl).elim
      | _ => exact p
    | _ => exact p
theorem fs_try {X : Cx} {W : WX} {x : Str} {hv : Value} {h : String} {cs : List String} {body suite : List Stmt} {b₀ : Stmt} {np pos pos' : Pos} {mb ms : St → Sto → R Fl} (hs : X.stack = X.env :: X.outer) (hf : X.env.frame = some X.env.locals) (hc : Names X x hv) (tk : Takes X W) (hk : HdE X.K X.mg cs h hv)
    (hb : ∀ (W : WX) (pn : List (Addr × Obj)) (xe : Value → Shared → Prop), Takes (X.tr pn xe) W → PassesOwn (model X.prog X.w) X.A X.env xe → FSs (X.tr pn xe) W body mb)
    (hsu : ∀ (a : Addr) (oe : Obj) (pn : List (Addr × Obj)), FSs (X.suite a ((a, oe) :: pn)) W0 (b₀ :: suite) ms) :
    FS X W (.Try body [.ExceptHandler (some (.Name x np)) none (b₀ :: suite) pos'] [] [] pos) (sTry cs h mb ms) :=
  ⟨PS.wk (ps_try_only (tb := fun W' => lfS X W' mb) (ts := fun _ _ _ => lfS X W0 ms) hs hf hc tk (fun W' pn xe t q => (hb W' pn xe t q).run) (fun a oe cls d pn _ _ => (hsu a oe pn).run)) fun D σ H hh => by
    obtain ⟨η, S, σ0, hR, hS, p⟩ := hh
    refine ⟨η, S, σ0, hR, hS, ?_⟩
    unfold sTry at p
    cases e : mb σ0 S with
    | ok f S1 =>
      rw [e] at p
      cases f with
      | rs c σ1 =>
        intro η' H' σ2 C e' hR' hS' hC
        dsimp only at p
        by_cases hcs : cs.contains c = true
        · rw [if_pos hcs] at p
          refine ⟨subE c h, hk c (by simpa using hcs) C hC, fun hb a ha => ?_, fun hb => ?_⟩
          · rw [if_pos hb] at p
            exact ⟨η', S1, σ1, hR', hS', PoS.mono e' (lfS_nx p)⟩
          · rw [if_neg (by rw [hb]; decide)] at p
            exact p η' H' σ2 C e' hR' hS' hC
        · rw [if_neg hcs] at p; exact p.elim
      | nx σ1 => exact p
      | rt v => exact p
      | bk σ1 => exact p
      | ct σ1 => exact p
    | exc c S1 => rw [e] at p; exact p.elim
    | bad => rw [e] at p; exact p.elim⟩
/-- a suite that holds its error in slot i -/
structure FUs (X : Cx) (i : Nat) (cs : List String) (suite : List Stmt) (m : String → St → St) : Prop where
  run : ∀ (a : Addr) (oe : Obj) (pn : List (Addr × Obj)) (c : String) (C : Addr), c ∈ cs → X.mg (Str.ofString c) = some (.ref C) → Zc (.ref C) none oe → (∃ vs, oe.data = .fields vs) → PSs (X.suite a ((a, oe) :: pn)) suite fun D σ H =>
    ∃ η S σ0, Rel X.K η S H ∧ SR η σ0 σ ∧ σ[i]? = some (some (.ref a)) ∧ ∀ H1 σ1, Ext η H η H1 → Rel X.K η S H1 → SR η (m c σ0) σ1 → σ1[i]? = some (some (.ref a)) → D.nx σ1 H1
theorem SR.unset {σ0 σ : St} (h : SR η σ0 σ) (i : Nat) (o : Option V) : SR η (σ0.set i none) (σ.set i o) := pset (F := OR η) (x := none) (u := o) trivial i h
theorem fs_tryA {X : Cx} {W : WX} {x n : Str} {hv : Value} {h : String} {i : Nat} {cs : List String} {body suite : List Stmt} {b₀ : Stmt} {np pos pos' : Pos} {mb : St → Sto → R Fl} {ms : String → St → St} (hs : X.stack = X.env :: X.outer) (hf : X.env.frame = some X.env.locals)
    (hN : X.N.Nodup) (hi : X.N[i]? = some n) (hln : X.env.kindOf n = some .local) (hc : Names X x hv) (tk : Takes X W) (hk : HdE X.K X.mg cs h hv)
    (hb : ∀ (W : WX) (pn : List (Addr × Obj)) (xe : Value → Shared → Prop), Takes (X.tr pn xe) W → PassesOwn (model X.prog X.w) X.A X.env xe → FSs (X.tr pn xe) W body mb)
    (hsu : FUs X i cs (b₀ :: suite) ms) :
    FS X W (.Try body [.ExceptHandler (some (.Name x np)) (some n) (b₀ :: suite) pos'] [] [] pos) (sTryA cs h i mb ms) :=
  ⟨PS.wk (ps_try_as (tb := fun W' => lfS X W' mb) (ts := fun a cls d => fun D σ H => ∃ c C, c ∈ cs ∧ X.mg (Str.ofString c) = some (.ref C) ∧ cls = .ref C ∧ d = none ∧ ∃ η S σ0, Rel X.K η S H ∧ SR η σ0 σ ∧ σ[i]? = some (some (.ref a)) ∧ ∀ H1 σ1, Ext η H η H1 → Rel X.K η S H1 → SR η (ms c σ0) σ1 → σ1[i]? = some (some (.ref a)) → D.nx σ1 H1)
    hs hf hN hi hln hc tk (fun W' pn xe t q => (hb W' pn xe t q).run) (fun a oe cls d pn hz hfl => ⟨fun pins s σ H D I hh => by
      obtain ⟨c, C, h1, h2, rfl, rfl, h3⟩ := hh
      exact (hsu.run a oe pn c C h1 h2 hz hfl).run pins s σ H D I h3⟩)) fun D σ H hh => by
    obtain ⟨η, S, σ0, hR, hS, p⟩ := hh
    refine ⟨η, S, σ0, hR, hS, ?_⟩
    unfold sTryA at p
    cases e : mb σ0 S with
    | ok f S1 =>
      rw [e] at p
      cases f with
      | rs c σ1 =>
        intro η' H' σ2 C e' hR' hS' hC
        dsimp only at p
        by_cases hcs : cs.contains c = true ∧ i < σ1.length
        · rw [if_pos hcs] at p
          have hcm : c ∈ cs := by simpa using hcs.1
          refine ⟨subE c h, hk c hcm C hC, fun hb a ha => ?_, fun hb => ?_⟩
          · rw [if_pos hb] at p
            refine ⟨c, C, hcm, hC, rfl, rfl, η', S1, σ1.set i none, hR', hS'.unset i _, ?_, fun H1 σ3 e1 r1 s1 _ => ?_⟩
            · exact List.getElem?_set_self (by rw [← hS'.length]; exact hcs.2)
            · exact p η' H1 (σ3.set i none) (e'.trans e1) r1 (s1.unset i none)
          · rw [if_neg (by rw [hb]; decide)] at p
            exact p η' H' σ2 C e' hR' hS' hC
        · rw [if_neg hcs] at p; exact p.elim
      | nx σ1 => exact p
      | rt v => exact p
      | bk σ1 => exact p
      | ct σ1 => exact p
    | exc c S1 => rw [e] at p; exact p.elim
    | bad => rw [e] at p; exact p.elim⟩
/-! what such suites do -/
abbrev TSu (X : Cx) (i : Nat) (a : Addr) (m : St → St) : TS := fun D σ H => ∃ η S σ0, Rel X.K η S H ∧ SR η σ0 σ ∧ σ[i]? = some (some (.ref a)) ∧ ∀ H1 σ1, Ext η H η H1 → Rel X.K η S H1 → SR η (m σ0) σ1 → σ1[i]? = some (some (.ref a)) → D.nx σ1 H1
structure FU (X : Cx) (i : Nat) (cs : List String) (st : Stmt) (m : String → St → St) : Prop where
  run : ∀ (a : Addr) (oe : Obj) (pn : List (Addr × Obj)) (c : String) (C : Addr), c ∈ cs → X.mg (Str.ofString c) = some (.ref C) → Zc (.ref C) none oe → (∃ vs, oe.data = .fields vs) → PS (X.suite a ((a, oe) :: pn)) st (TSu X i a (m c))
/-- a test whose answer hangs on the error's class alone -/
structure FUB (X : Cx) (i : Nat) (cs : List String) (e : Expr) (f : String → Bool) : Prop where
  run : ∀ (a : Addr) (oe : Obj) (pn : List (Addr × Obj)) (c : String) (C : Addr), c ∈ cs → X.mg (Str.ofString c) = some (.ref C) → Zc (.ref C) none oe → (∃ vs, oe.data = .fields vs) → PE (X.suite a ((a, oe) :: pn)) e fun σ H Q =>
    ∃ η S, Rel X.K η S H ∧ σ[i]? = some (some (.ref a)) ∧ ∀ H1, Ext η H η H1 → Rel X.K η S H1 → Q (.bl (f c)) H1
def uNil : String → St → St := fun _ σ => σ
def uSeq (m m2 : String → St → St) : String → St → St := fun c σ => m2 c (m c σ)
def uSet (j : Nat) (n : Int) : String → St → St := fun _ σ => σ.set j (some (.int n))
def uIf (f : String → Bool) (m : String → St → St) : String → St → St := fun c σ => if f c = true then m c σ else σ
def uMul (j : Nat) (n : Int) (f : String → Bool) : String → St → St := fun c σ => σ.set j (some (.int (n * (if f c = true then 1 else 0))))
def fAny (ds : List String) : String → Bool := fun c => ds.any (subE c)
def fYes : String → Bool := fun _ => true
section
variable {X : Cx} {i : Nat} {cs : List String} {st : Stmt} {sts : List Stmt} {m m2 : String → St → St} {e : Expr} {f : String → Bool} {pos p p2 p3 p4 : Pos}
theorem fus_nil : FUs X i cs [] uNil := ⟨fun a oe pn c C h1 h2 h3 h4 => PSs.wk pss_nil fun D σ H h => by
  obtain ⟨η, S, σ0, hR, hS, ha, k⟩ := h
  exact k H σ (Ext.refl _ _) hR hS ha⟩
theorem fus_cons (h : FU X i cs st m) (hr : FUs X i cs sts m2) : FUs X i cs (st :: sts) (uSeq m m2) := ⟨fun a oe pn c C h1 h2 h3 h4 => PSs.wk (pss_cons (h.run a oe pn c C h1 h2 h3 h4) (hr.run a oe pn c C h1 h2 h3 h4)) fun D σ H hh => by
  obtain ⟨η, S, σ0, hR, hS, ha, k⟩ := hh
  exact ⟨η, S, σ0, hR, hS, ha, fun H1 σ1 e1 r1 s1 a1 => ⟨η, S, m c σ0, r1, s1, a1, fun H2 σ2 e2 r2 s2 a2 => k H2 σ2 (e1.trans e2) r2 s2 a2⟩⟩⟩
theorem fu_set {j : Nat} {x : Str} {n : Int} {jj : Nat} (hN : X.N.Nodup) (hi : X.N[j]? = some x) (hx : Loc X.env.scope x) (hij : (j == i) = false) (hs : swapsWith (.Constant (.int n) jj p2) (some (.Name x p)) pos.line X.env = pure false := by rfl)
    (hf : X.fn x = true ∨ X.env.scope.names.lookup x = some .local := by first | exact .inl rfl | exact .inr rfl | assumption) : FU X i cs (.Assign [.Name x p] (.Constant (.int n) jj p2) pos) (uSet j n) :=
  ⟨fun a oe pn c C h1 h2 h3 h4 => PS.wk (ps_set (X := X.suite a ((a, oe) :: pn)) (i := j) hN hi hx pe_int hs hf) fun D σ H hh => by
    obtain ⟨η, S, σ0, hR, hS, ha, k⟩ := hh
    refine k H _ (Ext.refl _ _) hR (hS.set j (show OR η (some (.int n)) (some (.int n)) from rfl)) ?_
    rw [List.getElem?_set_ne (by simpa using hij)]; exact ha⟩
theorem fu_if (h : FUB X i cs e f) (hr : FUs X i cs sts m) (he : ∀ whole, isTrue e X.env whole = (do let v ← whole; standAt e.pos; holding [v] (truthy v)) := by intro _; rfl) : FU X i cs (.If e sts [] pos) (uIf f m) :=
  ⟨fun a oe pn c C h1 h2 h3 h4 => PS.wk (ps_if (pt_val (X := X.suite a ((a, oe) :: pn)) (h.run a oe pn c C h1 h2 h3 h4) he) (hr.run a oe pn c C h1 h2 h3 h4) pss_nil) fun D σ H hh => by
    obtain ⟨η, S, σ0, hR, hS, ha, k⟩ := hh
    refine ⟨η, S, hR, ha, fun H1 e1 r1 => ⟨f c, rfl, ?_⟩⟩
    cases hf : f c with
    | true =>
      refine ⟨η, S, σ0, r1, hS, ha, fun H2 σ2 e2 r2 s2 a2 => k H2 σ2 (e1.trans e2) r2 ?_ a2⟩
      simpa [uIf, hf] using s2
    | false =>
      refine k H1 σ e1 r1 ?_ ha
      simpa [uIf, hf] using hS⟩
/-- an own class by its name, as isinstance asks for it -/
structure IsC (K : PySem.W.Frag) (mg : Str → Option Value) (cs : List String) (d : String) : Prop where
  ex : ∃ D : Addr, mg (Str.ofString d) = some (.ref D) ∧ ∀ c ∈ cs, ∀ C : Addr, mg (Str.ofString c) = some (.ref C) → PySem.W.kitOne K (.ref C) (.ref D) = some (subE c d)
inductive NmsC (X : Cx) (cs : List String) : List Expr → List String → Prop
  | nil : NmsC X cs [] []
  | cons {x : Str} {d : String} {es : List Expr} {ds : List String} {p : Pos} (I : IsC X.K X.mg cs d) (hg : Gl X x) (hr : NmsC X cs es ds) (hx : x = Str.ofString d := by rfl) (hdb : (x == ("__debug__" : Str)) = false := by decide)
      (hst : starEach (.Name x p :: es) X.env = (false, eval (.Name x p) X.env) :: starEach es X.env := by rfl) : NmsC X cs (.Name x p :: es) (d :: ds)
theorem NmsC.pa {es : List Expr} {ds : List String} (h : NmsC X cs es ds) : ∃ (Ds : List Addr) (t : TA), PA X es t ∧ (∀ σ H Q, Q (Ds.map V.ref) H → t σ H Q) ∧ Ds.length = ds.length ∧ ∀ c ∈ cs, ∀ C : Addr, X.mg (Str.ofString c) = some (.ref C) → PySem.W.kitAny X.K (.ref C) (Ds.map Value.ref) = some (ds.any (subE c)) := by
  induction h with
  | nil => exact ⟨[], tNil, pa_nil, fun σ H Q h => h, rfl, fun c hc C hC => rfl⟩
  | cons I hg hr hx hdb hst ih =>
    rename_i x d es ds p
    obtain ⟨Ds, t, h1, h2, h3, h4⟩ := ih
    obtain ⟨D, hD, hk⟩ := I.ex
    refine ⟨D :: Ds, tCons (tC (.ref D)) t, pa_cons (pe_glob hg (by rw [hx]; exact hD) rfl hdb) h1 hst, fun σ H Q h => ?_, by simp [h3], fun c hc C hC => ?_⟩
    · exact h2 σ H _ h
    · show PySem.W.kitAny X.K (.ref C) (Value.ref D :: Ds.map Value.ref) = _
      refine kitAny_cons (hk c hc C hC) (fun hf => ?_) (fun ht => ?_)
      · rw [h4 c hc C hC, List.any_cons, hf]; rfl
      · rw [List.any_cons, ht]; rfl
/-- what isinstance wants of the classes that are raised -/
def ExCs (K : PySem.W.Frag) (mg : Str → Option Value) (cs : List String) : Prop := ∀ c ∈ cs, ∀ C : Addr, mg (Str.ofString c) = some (.ref C) → ExcC K C
theorem excAt {C a : Addr} {oe : Obj} {h : Heap} (hz : Zc (.ref C) none oe) (hf : ∃ vs, oe.data = .fields vs) (hget : h.get? a = some oe) : PySem.W.InstAt h a oe C none := by
  obtain ⟨vs, hv⟩ := hf
  obtain ⟨oc, od, oda, osl⟩ := oe
  obtain ⟨h1, h2⟩ := hz
  dsimp only at h1 h2 hv
  subst h1 h2 hv
  exact ⟨hget, rfl, rfl, trivial⟩
def rIsET (K : PySem.W.Frag) (D a : Addr) : List V → Hp → VK → Prop := fun xs H Q => ∃ (tp : Addr) (Ds : List Addr) (b : Bool), xs = [.ref a, .ref tp] ∧ H tp = some (.tup (Ds.map V.ref)) ∧ PySem.W.kitAny K (.ref D) (Ds.map Value.ref) = some b ∧ Q (.bl b) H
theorem refs_vals : ∀ {Ds : List Addr} {us : List Value}, Vals (Ds.map V.ref) us → us = Ds.map Value.ref
  | [], _, .nil => rfl
  | D :: Ds, _, .cons r t => by
    cases (show _ = Value.ref D from r)
    rw [refs_vals t]; rfl
theorem call_isET {a D : Addr} {oe : Obj} {pn : List (Addr × Obj)} (C : ExcC X.K D) (hz : Zc (.ref D) none oe) (hf : ∃ vs, oe.data = .fields vs) : CallR (X.suite a ((a, oe) :: pn)) (.builtin "isinstance") (rIsET X.K D a) := by
  intro pins s σ H xs us Q I r h
  obtain ⟨tp, Ds, b, rfl, hT, e, q⟩ := h
  obtain ⟨u1, u2, rfl, r1, r2⟩ := vals2 r
  cases (show u1 = Value.ref a from r1)
  cases (show u2 = Value.ref tp from r2)
  obtain ⟨hget, _⟩ := I.pin (a, oe) (List.mem_append.mpr (.inl List.mem_cons_self))
  obtain ⟨_, its, rv, o, h1, h2, n, h3⟩ := (show ObjOk _ _ H s.heap tp (.tup (Ds.map V.ref)) from I.hok tp _ hT)
  have e3 := refs_vals rv
  subst e3
  obtain ⟨oc, od, dt, sl⟩ := o
  simp only at h2 h3
  subst h2 h3
  exact PySem.W.kia_tup (PySem.W.handS_kitx_exc C.hg C.hk C.hs C.hd C.ha C.hn C.ht C.hm) I.kIn (excAt hz hf hget) h1 e (fun z => nomatch z) fun tk => ⟨.bl b, H, I.kept (t' := tk) fun _ _ z => z, rfl, q⟩
theorem fub_isT {n : Str} {es : List Expr} {ds : List String} {k : Nat} (hE : ExCs X.K X.mg cs) (hN : X.N[i]? = some n) (hv : Vis X.env.scope n) (hg : Gl X "isinstance") (hm : X.mg "isinstance" = none) (hb : bootBuiltins "isinstance" = some (.builtin "isinstance")) (h : ∀ a oe pn, NmsC (X.suite a ((a, oe) :: pn)) cs es ds) (hl : ds.length ≤ 1000)
    (hd : (n == ("__debug__" : Str)) = false := by decide) (hcd : (n == ("__classdict__" : Str)) = false := by decide)
    (he : starEach (.Name n p :: [.Tuple es k p2]) X.env = (false, eval (.Name n p) X.env) :: starEach [.Tuple es k p2] X.env := by rfl) (he2 : starEach [.Tuple es k p2] X.env = (false, eval (.Tuple es k p2) X.env) :: starEach [] X.env := by rfl)
    (hpl : (backTo pos (starEach [.Tuple es k p2] X.env)).any (·.1) = false := by rfl) :
    FUB X i cs (.Call (.Name "isinstance" p3) [.Name n p, .Tuple es k p2] [] pos) (fAny ds) :=
  ⟨fun a oe pn c C h1 h2 h3 h4 => by
    obtain ⟨Ds, t, q1, q2, q3, q4⟩ := (h a oe pn).pa
    refine PE.wk (pe_callB (X := X.suite a ((a, oe) :: pn)) (call_isET (hE c h1 C h2) h3 h4) hg hm hb (pa_cons (pe_var (i := i) hN hv hd hcd) (pa_cons (pe_tup q1) pa_nil he2) he) (by decide) (by decide) he hpl) fun σ H Q hh => ?_
    obtain ⟨η, S, hR, ha, k⟩ := hh
    refine ⟨.ref a, ha, q2 σ H _ ⟨by rw [List.length_map, q3, sizeLine_eq]; omega, fun q hq => ?_⟩⟩
    exact ⟨q, Ds, _, rfl, upd_same, q4 c h1 C h2, k _ (Ext.side hq _) (hR.side hq _)⟩⟩
theorem fub_isV {n : Str} (hE : ExCs X.K X.mg cs) (hk : ∀ c ∈ cs, ∀ C : Addr, X.mg (Str.ofString c) = some (.ref C) → PySem.W.kitOne X.K (.ref C) (.type "ValueError") = some true) (hN : X.N[i]? = some n) (hv : Vis X.env.scope n) (hg : Gl X "isinstance") (hm : X.mg "isinstance" = none) (hb : bootBuiltins "isinstance" = some (.builtin "isinstance"))
    (hg2 : Gl X "ValueError") (hm2 : X.mg "ValueError" = none) (hb2 : bootBuiltins "ValueError" = some (.type "ValueError"))
    (hd : (n == ("__debug__" : Str)) = false := by decide) (hcd : (n == ("__classdict__" : Str)) = false := by decide)
    (he : starEach (.Name n p :: [.Name "ValueError" p2]) X.env = (false, eval (.Name n p) X.env) :: starEach [.Name "ValueError" p2] X.env := by rfl) (he2 : starEach [.Name "ValueError" p2] X.env = (false, eval (.Name "ValueError" p2) X.env) :: starEach [] X.env := by rfl)
    (hpl : (backTo pos (starEach [.Name "ValueError" p2] X.env)).any (·.1) = false := by rfl) :
    FUB X i cs (.Call (.Name "isinstance" p3) [.Name n p, .Name "ValueError" p2] [] pos) fYes :=
  ⟨fun a oe pn c C h1 h2 h3 h4 => by
    refine PE.wk (pe_callB (X := X.suite a ((a, oe) :: pn)) (call_isE (hE c h1 C h2) h3 h4) hg hm hb (pa_cons (pe_var (i := i) hN hv hd hcd) (pa_cons (pe_bltn (v := .ty "ValueError") hg2 hm2 hb2 rfl) pa_nil he2) he) (by decide) (by decide) he hpl) fun σ H Q hh => ?_
    obtain ⟨η, S, hR, ha, k⟩ := hh
    exact ⟨.ref a, ha, .ty "ValueError", .type "ValueError", true, rfl, fun u hu => hu, hk c h1 C h2, k H (Ext.refl _ _) hR⟩⟩
/-- x = k * int(test) -/
theorem fu_mul {j : Nat} {x : Str} {n : Int} {jj : Nat} {p5 p6 p7 : Pos} (h : FUB X i cs e f) (hN : X.N.Nodup) (hi : X.N[j]? = some x) (hx : Loc X.env.scope x) (hij : (j == i) = false) (hg : Gl X "int") (hm : X.mg "int" = none) (hb : bootBuiltins "int" = some (.type "int"))
    (hs : swapsWith (.BinOp (.Constant (.int n) jj p2) .Mult (.Call (.Name "int" p5) [e] [] p6) p7) (some (.Name x p)) pos.line X.env = pure false := by rfl) (hn : -1000 ≤ n ∧ n ≤ 1000 := by decide)
    (he : starEach [e] X.env = (false, eval e X.env) :: starEach [] X.env := by rfl)
    (hf : X.fn x = true ∨ X.env.scope.names.lookup x = some .local := by first | exact .inl rfl | exact .inr rfl | assumption) :
    FU X i cs (.Assign [.Name x p] (.BinOp (.Constant (.int n) jj p2) .Mult (.Call (.Name "int" p5) [e] [] p6) p7) pos) (uMul j n f) :=
  ⟨fun a oe pn c C h1 h2 h3 h4 => PS.wk (ps_set (X := X.suite a ((a, oe) :: pn)) (i := j) hN hi hx (pe_op op_mul pe_int (pe_callTy call_int1 hg hm hb (pa_cons (h.run a oe pn c C h1 h2 h3 h4) pa_nil he) (by decide) (by decide) he rfl)) hs hf) fun D σ H hh => by
    obtain ⟨η, S, σ0, hR, hS, ha, k⟩ := hh
    refine ⟨η, S, hR, ha, fun H1 e1 r1 => .inr ⟨f c, rfl, ?_⟩⟩
    refine ⟨n, if f c = true then 1 else 0, rfl, rfl, ?_, ?_⟩
    · exact .inl ⟨by omega, by omega⟩
    · refine k H1 _ e1 r1 (hS.set j (show OR η (some (.int _)) (some (.int _)) from rfl)) ?_
      rw [List.getElem?_set_ne (by simpa using hij)]; exact ha⟩
end
/-! by facts told by name -/
def HdX (K : PySem.W.Frag) (mg : Str → Option Value) (cs : List String) (h : String) : Prop := ∃ C : Addr, mg (Str.ofString h) = some (.ref C) ∧ HdE K mg cs h (.ref C)
theorem fs_try' {X : Cx} {W : WX} {x : Str} {h : String} {cs : List String} {body suite : List Stmt} {b₀ : Stmt} {np pos pos' : Pos} {mb ms : St → Sto → R Fl} (hs : X.stack = X.env :: X.outer) (hf : X.env.frame = some X.env.locals) (hg : Gl X x) (tk : Takes X W) (hk : HdX X.K X.mg cs h)
    (hb : ∀ (W : WX) (pn : List (Addr × Obj)) (xe : Value → Shared → Prop), Takes (X.tr pn xe) W → PassesOwn (model X.prog X.w) X.A X.env xe → FSs (X.tr pn xe) W body mb)
    (hsu : ∀ (a : Addr) (oe : Obj) (pn : List (Addr × Obj)), FSs (X.suite a ((a, oe) :: pn)) W0 (b₀ :: suite) ms) (hx : x = Str.ofString h := by rfl) (hdb : (x == ("__debug__" : Str)) = false := by decide) :
    FS X W (.Try body [.ExceptHandler (some (.Name x np)) none (b₀ :: suite) pos'] [] [] pos) (sTry cs h mb ms) := by
  obtain ⟨C, h1, h2⟩ := hk
  exact fs_try hs hf ⟨hg, hdb, .inl (by rw [hx]; exact h1)⟩ tk h2 hb hsu
theorem fs_tryA' {X : Cx} {W : WX} {x n : Str} {h : String} {i : Nat} {cs : List String} {body suite : List Stmt} {b₀ : Stmt} {np pos pos' : Pos} {mb : St → Sto → R Fl} {ms : String → St → St} (hs : X.stack = X.env :: X.outer) (hf : X.env.frame = some X.env.locals)
    (hN : X.N.Nodup) (hi : X.N[i]? = some n) (hln : X.env.kindOf n = some .local) (hg : Gl X x) (tk : Takes X W) (hk : HdX X.K X.mg cs h)
    (hb : ∀ (W : WX) (pn : List (Addr × Obj)) (xe : Value → Shared → Prop), Takes (X.tr pn xe) W → PassesOwn (model X.prog X.w) X.A X.env xe → FSs (X.tr pn xe) W body mb)
    (hsu : FUs X i cs (b₀ :: suite) ms) (hx : x = Str.ofString h := by rfl) (hdb : (x == ("__debug__" : Str)) = false := by decide) :
    FS X W (.Try body [.ExceptHandler (some (.Name x np)) (some n) (b₀ :: suite) pos'] [] [] pos) (sTryA cs h i mb ms) := by
  obtain ⟨C, h1, h2⟩ := hk
  exact fs_tryA hs hf hN hi hln ⟨hg, hdb, .inl (by rw [hx]; exact h1)⟩ tk h2 hb hsu
def KvV (K : PySem.W.Frag) (mg : Str → Option Value) (cs : List String) : Prop := ∀ c ∈ cs, ∀ C : Addr, mg (Str.ofString c) = some (.ref C) → PySem.W.kitOne K (.ref C) (.type "ValueError") = some true
theorem cls_nil {P : String → Prop} : ∀ c ∈ ([] : List String), P c := fun _ h => nomatch h
theorem cls_cons {P : String → Prop} {c : String} {cs : List String} (h : P c) (hr : ∀ x ∈ cs, P x) : ∀ x ∈ c :: cs, P x := fun x hx => by
  rcases List.mem_cons.mp hx with rfl | hx
  · exact h
  · exact hr x hx
theorem cls_at {mg : Str → Option Value} {x : Str} {C0 : Addr} {P : Addr → Prop} (m : mg x = some (.ref C0)) (h : P C0) : ∀ C : Addr, mg x = some (.ref C) → P C := fun C hC => by
  rw [m] at hC
  cases hC
  exact h
theorem exm_by {K : PySem.W.Frag} {C D : Addr} {c h : String} {b : Bool} (e : subE c h = b) (h1 : PySem.W.subIn K (.ref D) (.type "BaseException") = some true) (h2 : PySem.W.hasDictIn K D = true) (h3 : PySem.W.typeIn K (.ref D) = some (.type "type")) (h4 : PySem.W.subIn K (.ref C) (.ref D) = some b) :
    PySem.W.exmOne K (.ref C) (.ref D) = some (subE c h) := by
  rw [e]; exact PySem.W.exm_ref h1 h2 h3 h4
theorem kit_by {K : PySem.W.Frag} {C D : Addr} {c h : String} {b : Bool} (e : subE c h = b) (h2 : PySem.W.hasDictIn K D = true) (h3 : PySem.W.typeIn K (.ref D) = some (.type "type")) (h4 : PySem.W.subIn K (.ref C) (.ref D) = some b) (h5 : PySem.W.subIn K (.ref C) (.ref C) = some true) :
    PySem.W.kitOne K (.ref C) (.ref D) = some (subE c h) := by
  rw [e]
  unfold PySem.W.kitOne
  by_cases hCD : C = D
  · subst hCD
    rw [h5] at h4
    cases h4
    rw [if_pos (by simp)]
  · rw [if_neg (by simpa using hCD)]
    obtain ⟨cd, hc, _⟩ := PySem.W.any_some h2
    show (if ((PySem.W.clsIn K D).isSome && PySem.W.typeIn K (.ref D) == some (.type "type")) = true then PySem.W.subIn K (.ref C) (.ref D) else none) = some b
    rw [hc, h3]
    exact h4
theorem kitV_by {K : PySem.W.Frag} {C : Addr} (h4 : PySem.W.subIn K (.ref C) (.type "ValueError") = some true) : PySem.W.kitOne K (.ref C) (.type "ValueError") = some true := by
  unfold PySem.W.kitOne
  rw [if_neg (by simp)]
  show (if PySem.W.kitMeta "ValueError" = true then PySem.W.subIn K (.ref C) (.type "ValueError") else none) = some true
  rw [if_pos (by decide +kernel)]
  exact h4
theorem fe_globI {X : Cx} {W : WX} {x : Str} {n : Int} {pos : Pos} (hg : Gl X x) (h : ∃ t, X.mg x = some (.int n t)) (hd : (x == ("__debug__" : Str)) = false := by decide) : FE X W (.Name x pos) (eC (.int n)) := by
  obtain ⟨t, h⟩ := h
  exact fe_c (pe_glob hg h ⟨_, rfl⟩ hd)
theorem fe_globS {X : Cx} {W : WX} {x : Str} {n : Str} {pos : Pos} (hg : Gl X x) (h : ∃ t, X.mg x = some (.str n t)) (hd : (x == ("__debug__" : Str)) = false := by decide) : FE X W (.Name x pos) (eC (.str n)) := by
  obtain ⟨t, h⟩ := h
  exact fe_c (pe_glob hg h ⟨_, rfl⟩ hd)
/-! a, b = a list or a tuple -/
def gSq (K : PySem.W.Frag) (n : Nat) (t : TGs) : TG := fun v σ H Q => ∃ a xs, v = .ref a ∧ (SqL K H a xs ∨ SqT K H a xs) ∧ xs.length = n ∧ t xs σ H Q
theorem pg_sq {X : Cx} {es : List Expr} {k : Nat} {t : TGs} {n : Nat} {pos : Pos} (hc : X.calm = true) (h : PGs X es t) (hn : (assignEach es X.env).length = n := by rfl) (hst : (assignEach es X.env).findIdx? (·.1) = none := by rfl) : PG X (.Tuple es k pos) (gSq X.K n t) := by
  refine ⟨fun pins s σ H v u Q I r hw => ?_⟩
  obtain ⟨a, xs, rfl, hq, hl, hw⟩ := hw
  rcases hq with hq | hq
  · cases r
    obtain ⟨its, rv, p', hz⟩ := I.list hq
    rw [PyProof.Rows.assign_Tuple]
    refine wpAny_bind (wpAny_standAt ?_)
    unfold PySem.unpack
    rw [hst, show (assignEach es X.env).length = its.toArray.size by rw [hn, ← hl, rv.length, List.size_toArray]]
    refine wpAny_bind (wpAny_holding (PySem.W.kun_itemsOf (I.ok.hd hc) p'.isList fun h' hx => ?_))
    have I1 : Inv X pins σ H { s with heap := h' } := I.kept (t' := s.toks) fun b o e => hx b o (Nat.ne_of_lt (Heap.lt_size e)) e
    exact h.run pins _ σ H xs _ Q I1 (by simpa using rv) hw
  · exact (pg_tup hc h hn hst).run pins s σ H _ u Q I r ⟨a, xs, rfl, hq, hl, hw⟩
def gU (is : List Nat) : V → St → Sto → R St := fun v σ S => match rdLT v S with
  | some xs => if xs.length = is.length then .ok (gTs is xs σ) S else .bad
  | none => .bad
theorem fg_sq {X : Cx} {W : WX} {ts : List Expr} {is : List Nat} {k : Nat} {g : TGs} {pos : Pos} (hc : X.calm = true) (h : FGs X ts is g) (hn : (assignEach ts X.env).length = is.length := by rfl) (hst : (assignEach ts X.env).findIdx? (·.1) = none := by rfl) : FG X W (.Tuple ts k pos) (gU is) := by
  obtain ⟨h2, h3⟩ := h.run
  refine ⟨_, pg_sq (n := is.length) hc h.pgs hn hst, fun η S H σ0 σ x u Q hR hS r p => ?_⟩
  unfold gU at p
  cases e : rdLT x S with
  | none => rw [e] at p; exact p.elim
  | some xs =>
    rw [e] at p
    dsimp only at p
    by_cases hl : xs.length = is.length
    · rw [if_pos hl] at p
      obtain ⟨a, us, rfl, e2, r2, z⟩ := rdLT_ok e hR r
      refine ⟨a, us, rfl, e2, by rw [← r2.length]; exact hl, h3 us σ H Q (by rw [← r2.length]; exact hl) ?_⟩
      exact p.now hR (SR.sets hS r2)
    · rw [if_neg hl] at p; exact p.elim
end Fx
/-! Fx: list(reversed(xs)): a new list. -/
namespace RvL
open PySem PySem.Spec PyProof.Rows PySem.Calls
section
variable {prog : Program} {w : World} {A : Around} {E : Value → Shared → Prop} {s : Shared}
/-- the list's own loop over a list_reverseiterator -/
theorem rv_extend {R : Result → Shared → Prop} {it l S : Addr} {items : Array Value} (hh : A.handled = none) (hit : s.heap.IsRevIter it l ((items.size : Int) - 1)) (hl : s.heap.IsList l items) (hne : l ≠ it) (hn : items.size ≤ sizeLine) (hSi : S ≠ it) (hSl : S ≠ l) (c₀ : Nat)
    (hS : s.heap.get? S = some { cls := .type "list", data := .seq #[] c₀ })
    (hR : ∀ h' tk acc' c', (∀ b o, b ≠ S → b ≠ it → s.heap.get? b = some o → h'.get? b = some o) → h'.get? S = some { cls := .type "list", dict := none, data := .seq acc' c', slots := #[] } → ItemsOf (fun i v => items[items.size - 1 - i]? = some v) acc' items.size → R (.ok (.ret .none)) { s with heap := h', toks := tk }) :
    wpAny (model prog w) A.in1 (Builtin.List.listExtendWith (.ref S) (.ref it) .none) (fun fin s' => match fin with | .done f => R (.ok f) s' | .again c' => c'.quiet = true ∧ codeAny (model prog w) A c' R s') (fun e s' => R (.error e) s') s := by
  have W := (Walks.listRev (prog := prog) (w := w) (A := A.in1) hh it l hne items).toS
  have hSf : S ∉ [it, l] := by simp only [List.mem_cons, List.not_mem_nil, or_false, not_or]; exact ⟨hSi, hSl⟩
  have hT : s.TypeIs (.ref it) "list_reverseiterator" := Heap.IsRevIter.typeIs hit
  have hsame : Builtin.List.listSameRef (.ref S) (.ref it) = false := by simp [Builtin.List.listSameRef, hSi]
  unfold Builtin.List.listExtendWith
  refine wpAny_bind (wpAny_typeOf hT ?_)
  rw [if_neg (by rw [hsame]; decide)]
  refine wpAny_bind (wpAny_pyIter_revIter hit (wpAny_bind (wpAny_holding ?_)))
  unfold Builtin.List.listLengthHint
  refine wpAny_bind (wpAny_specialOf hT RT.nolen_lri ?_)
  show wpAny _ _ (specialOf (Value.ref it) (Str.ofString "__length_hint__") >>= _) _ _ _
  refine wpAny_bind (wpAny_specialOf hT RT.hint_lri ?_)
  generalize hid : ("list_reverseiterator.__length_hint__" : String) = id0
  wp_delta
  have hsp : splitId id0 = some ("list_reverseiterator", "__length_hint__") := by subst hid; decide +kernel
  rw [hsp]
  subst hid
  refine wpAny_bind (wpAny_isInstance (T := "list_reverseiterator") (b := true) hT (by rw [isSubtype_type]; kernel_rfl) ?_)
  refine wpAny_pure ?_
  rw [if_neg (by decide)]
  have e0 : ((items.size : Nat) : Int) - 1 - ((0 : Nat) : Int) = (items.size : Int) - 1 := by omega
  refine wpAny_pure ⟨plainId_quiet F.plain_extend_loop _, codeAny_extend_loopS W hn S hSf _ items.size 0 _ #[] c₀ rfl (Nat.zero_le _) ⟨Nat.zero_le _, by rw [e0]; exact hit, hl⟩ hS (ItemsOf.nil _) fun s' acc' c' hm hS' hacc => ?_⟩
  rw [Moved.eq_with hm]
  refine hR s'.heap s'.toks acc' c' (fun b o hb hb2 e => hm.heap b o (fun hmem => ?_) e) hS' hacc
  rcases List.mem_cons.mp hmem with z | z
  · exact hb z
  · exact hb2 (List.mem_singleton.mp z)
theorem call_list_rev {Q : Value → Shared → Prop} {it l : Addr} {items : Array Value} (hh : A.handled = none) (hit : s.heap.IsRevIter it l ((items.size : Int) - 1)) (hl : s.heap.IsList l items) (hne : l ≠ it) (hn : items.size ≤ sizeLine)
    (hQ : ∀ h' tk acc' c', (∀ b o, b ≠ it → s.heap.get? b = some o → h'.get? b = some o) → h'.get? s.heap.objs.size = some { cls := .type "list", dict := none, data := .seq acc' c', slots := #[] } → ItemsOf (fun i v => items[items.size - 1 - i]? = some v) acc' items.size → Q (.ref s.heap.objs.size) { s with heap := h', toks := tk }) :
    wpAny (model prog w) A (call (.type "list") [.ref it]) Q E s := by
  refine callType_codes (Q₁ := fun obj s₁ => obj = .ref s.heap.objs.size ∧ s₁ = { s with heap := s.heap.push { cls := .type "list", data := .seq #[] } }) PySem.F.called_list (PySem.F.typeCall_list_1 _) PySem.F.entry_list_init (code_list_new _ ⟨rfl, rfl⟩) fun obj s₁ h₁ => ?_
  obtain ⟨rfl, rfl⟩ := h₁
  have hS : (s.heap.push { cls := .type "list", data := .seq #[] }).get? s.heap.objs.size = some { cls := .type "list", data := .seq #[] } := Heap.get?_push_size _ rfl
  obtain ⟨oi, hoi, _⟩ := id hit
  obtain ⟨ol, hol, _⟩ := id hl
  have hSi : s.heap.objs.size ≠ it := Nat.ne_of_gt (Heap.lt_size hoi)
  have hSl : s.heap.objs.size ≠ l := Nat.ne_of_gt (Heap.lt_size hol)
  refine ⟨⟨_, hS, rfl⟩, PySem.F.args_list_init_2 _ _, ?_⟩
  show wpAny _ _ (do let old ← Builtin.List.listItems (.ref _); Builtin.List.listUpdate (.ref _) (fun _ => #[]); letGo old.toList.reverse; Builtin.List.listExtendWith (.ref _) (.ref it) .none) _ _ _
  refine wpAny_bind ?_
  unfold Builtin.List.listItems
  refine wpAny_bind (wpAny_seqItems hS rfl (wpAny_pure ?_))
  show wpAny _ _ (updateSeq _ (fun _ => #[]) >>= fun _ => letGo (#[] : Array Value).toList.reverse >>= fun _ => Builtin.List.listExtendWith (.ref _) (.ref it) .none) _ _ _
  refine wpAny_bind (wpAny_updateSeq hS rfl ?_)
  have hS₂ := Heap.get?_update_self (Obj.mapSeq (fun _ => (#[] : Array Value))) hS rfl
  have old : ∀ b o, s.heap.get? b = some o → ((s.heap.push { cls := .type "list", data := .seq #[] }).update s.heap.objs.size (Obj.mapSeq (fun _ => (#[] : Array Value)))).get? b = some o :=
    fun b o e => (Heap.get?_update_other _ _ (Nat.ne_of_gt (Heap.lt_size e))).trans (Heap.get?_push_of_some _ e)
  refine wpAny_bind (wpAny_letGo ?_)
  refine rv_extend (A := A.in1) hh (hit.at fun o e => old it o e) (hl.at fun o e => old l o e) hne hn hSi hSl _ hS₂ fun h' tk acc' c' hk hS' hacc => ?_
  exact ⟨rfl, hQ h' tk acc' c' (fun b o hb e => hk b o (Nat.ne_of_lt (Heap.lt_size e)) hb (old b o e)) hS' hacc⟩
end
end RvL
namespace Fx
open PySem PySem.Spec L2
open PyProof.Rows hiding St
section
variable {X : Cx} {W : WX} {η : List Addr} {S : Sto} {H : Hp}
def tLstRev (K : PySem.W.Frag) (te : TE) : TE := fun σ H Q => te σ H fun v H1 => ∃ (a : Addr) (xs : List V), v = .ref a ∧ SqL K H1 a xs ∧ ∀ q, H1 q = none → Q (.ref q) (upd H1 q (.lst xs.reverse))
theorem pe_listRev {e : Expr} {te : TE} {p p2 pos pos2 : Pos} (hc : X.calm = true) (hg : Gl X "list") (hm : X.mg "list" = none) (hg2 : Gl X "reversed") (hm2 : X.mg "reversed" = none) (he : PE X e te) (hs : starEach [e] X.env = (false, eval e X.env) :: starEach [] X.env := by rfl)
    (hs2 : starEach [.Call (.Name "reversed" p2) [e] [] pos2] X.env = (false, eval (.Call (.Name "reversed" p2) [e] [] pos2) X.env) :: starEach [] X.env := by rfl) : PE X (.Call (.Name "list" p) [.Call (.Name "reversed" p2) [e] [] pos2] [] pos) (tLstRev X.K te) := by
  refine ⟨fun pins s σ H Q I h => ?_⟩
  refine Call_ (ld_blt I hg hm boot_list (PyProof.Rows.callWith_type1 (args_cons (Call_ (ld_blt I hg2 hm2 PyProof.Rows.boot_reversed (PyProof.Rows.callWith_type1 (args_cons (thn (he.run pins s σ H _ I h) fun u s1 ⟨v, H1, I1, r1, q1⟩ => args_nil ?_) hs) hs rfl))) hs2) hs2 rfl))
  obtain ⟨a, xs, rfl, hq, q⟩ := q1
  obtain rfl : u = Value.ref a := r1
  obtain ⟨its, rv, p', hz⟩ := I1.list hq
  have hl := p'.isList
  obtain ⟨ol, hol, _⟩ := id hl
  have hne : a ≠ s1.heap.objs.size := Nat.ne_of_lt (Heap.lt_size hol)
  refine call_reversed_list hl (args_nil ?_)
  have I2 : Inv X pins σ H1 { s1 with heap := s1.heap.push (revObj a ((its.toArray.size : Int) - 1)) } := I1.kept (t' := s1.toks) fun b o e => Heap.get?_push_of_some _ e
  have fp := I1.fpOk (H' := H1) (b := s1.heap.objs.size) (Nat.le_refl _) (I1.hok.fresh (Nat.le_refl _))
  refine RvL.call_list_rev (s := { s1 with heap := s1.heap.push (revObj a ((its.toArray.size : Int) - 1)) }) (I1.ok.hd hc) ⟨_, Heap.get?_push_size _ rfl, rfl, rfl⟩ (hl.push _) hne (by rw [List.size_toArray, ← rv.length]; exact hz) fun h' tk acc c' hk hS hi => ?_
  refine ⟨.ref (s1.heap.push (revObj a ((its.toArray.size : Int) - 1))).objs.size, upd H1 (s1.heap.push (revObj a ((its.toArray.size : Int) - 1))).objs.size (.lst xs.reverse), I2.turnedNew (ch := [s1.heap.objs.size]) (fun b o hb e => hk b o (fun z => hb (by rw [z]; exact List.mem_singleton.mpr rfl)) e) (fun b hb => by rw [List.mem_singleton.mp hb]; exact fp) (Nat.le_refl _)
    (show ObjOk X.prog X.w _ _ _ (.lst xs.reverse) from ⟨by rw [List.length_reverse]; exact hz, acc.toList, c', RT.vals_rev rv hi, by rw [Array.toArray_toList]; exact hS⟩), rfl, q _ (I2.hok.fresh (Nat.le_refl _))⟩
def revL (x : V) (S : Sto) : R V := match rdL x S with
  | some xs => alloc (.lst xs.reverse) S
  | none => .bad
def eLRv (m : St → Sto → R V) : St → Sto → R V := fun σ S => (m σ S).bind fun x S1 => revL x S1
theorem fe_listRev {e : Expr} {m : St → Sto → R V} {p p2 pos pos2 : Pos} (hc : X.calm = true) (hg : Gl X "list") (hm : X.mg "list" = none) (hg2 : Gl X "reversed") (hm2 : X.mg "reversed" = none) (he : FE X W e m) (hs : starEach [e] X.env = (false, eval e X.env) :: starEach [] X.env := by rfl)
    (hs2 : starEach [.Call (.Name "reversed" p2) [e] [] pos2] X.env = (false, eval (.Call (.Name "reversed" p2) [e] [] pos2) X.env) :: starEach [] X.env := by rfl) : FE X W (.Call (.Name "list" p) [.Call (.Name "reversed" p2) [e] [] pos2] [] pos) (eLRv m) :=
  ⟨PE.wk (pe_listRev hc hg hm hg2 hm2 he.run hs hs2) fun σ H Q h => by
    obtain ⟨η, S, σ0, hR, hS, p⟩ := h
    refine ⟨η, S, σ0, hR, hS, (Po.bind (rel := VR) p).imp fun u H1 ⟨η1, S1, v, e1, hR1, r1, p1⟩ => ?_⟩
    unfold revL at p1
    cases e : rdL v S1 with
    | none => rw [e] at p1; exact p1.elim
    | some xs =>
      rw [e] at p1
      obtain ⟨a, us, rfl, hq, r2, z⟩ := rdL_ok e hR1 r1
      exact ⟨a, us, rfl, hq, p1.lst hR1 (prev r2) (by rw [List.length_reverse]; exact z)⟩⟩
end
end Fx
/-! Fx: x is True, x is not False; the empty dict. -/
namespace Fx
open PySem PySem.Spec L2
open PyProof.Rows hiding St
variable {K : PySem.W.Frag} {η : List Addr} {S : Sto} {H : Hp}
section
variable {X : Cx} {W : WX} {pos : Pos}
theorem plain_b {M : Model} {A : Around} {E : Value → Shared → Prop} {s : Shared} {x : V} {u : Value} {b : Bool} {R : Bool → Shared → Prop} (r : RelV x u)
    (q : R (decide (x = .bl b)) s) : wpAny M A (isSame u (.bool b)) R E s := by
  have ne_ : ∀ {u : Value}, plainIs u (.bool b) = true → (u == Value.bool b) = decide (x = .bl b) → wpAny M A (isSame u (.bool b)) R E s := fun h1 h2 => wpAny_isSame_plain h1 (by rw [h2]; exact q)
  cases x with
  | ref a => cases r; exact ne_ rfl (by simp)
  | non => cases r; exact ne_ rfl (by simp)
  | bl c => cases r; exact ne_ rfl (by cases b <;> cases c <;> rfl)
  | int i => obtain ⟨t, rfl⟩ := r; exact ne_ rfl (by simp)
  | str x => obtain ⟨t, rfl⟩ := r; exact ne_ rfl (by simp)
  | byt x => obtain ⟨t, rfl⟩ := r; exact ne_ rfl (by simp)
  | flt x => obtain ⟨t, rfl⟩ := r; exact ne_ rfl (by simp)
  | ty n => cases r; exact ne_ rfl (by simp)
def rIsB : R2 := fun x y H Q => ∃ b, y = .bl b ∧ Q (.bl (decide (x = .bl b))) H
def rNotB : R2 := fun x y H Q => ∃ b, y = .bl b ∧ Q (.bl (!decide (x = .bl b))) H
theorem op_isB : OpR X (compareOp .Is) rIsB := by
  intro pins s σ H x y v u Q I rx ry h
  obtain ⟨b, rfl, q⟩ := h
  cases ry
  show wpAny _ _ ((isSame v (Value.bool b)) >>= fun z => pure (Value.bool z)) _ _ s
  exact wpAny_bind (plain_b (b := b) rx (wpAny_pure (fin_bl I q rfl)))
theorem op_notB : OpR X (compareOp .IsNot) rNotB := by
  intro pins s σ H x y v u Q I rx ry h
  obtain ⟨b, rfl, q⟩ := h
  cases ry
  show wpAny _ _ ((isSame v (Value.bool b)) >>= fun z => pure (Value.bool (!z))) _ _ s
  exact wpAny_bind (plain_b (b := b) rx (wpAny_pure (fin_bl I q rfl)))
def isBM : V → V → Sto → R V := fun x y S => match y with
  | .bl b => .ok (.bl (decide (x = .bl b))) S
  | _ => .bad
def notBM : V → V → Sto → R V := fun x y S => match y with
  | .bl b => .ok (.bl (!decide (x = .bl b))) S
  | _ => .bad
theorem VR.blq {x u : V} (b : Bool) (h : VR η x u) : decide (u = .bl b) = decide (x = .bl b) := by
  cases x with
  | ref n => obtain ⟨a, _, rfl⟩ := h; rfl
  | _ => rw [show u = _ from h]
theorem isBM_ok : OpM X rIsB isBM := by
  intro W σ η S H x y u v Q hR hx hy p
  cases y with
  | bl b =>
    cases show v = V.bl b from hy
    exact ⟨b, rfl, p.now hR (show V.bl (decide (u = .bl b)) = V.bl (decide (x = .bl b)) by rw [hx.blq b])⟩
  | _ => exact p.elim
theorem notBM_ok : OpM X rNotB notBM := by
  intro W σ η S H x y u v Q hR hx hy p
  cases y with
  | bl b =>
    cases show v = V.bl b from hy
    exact ⟨b, rfl, p.now hR (show V.bl (!decide (u = .bl b)) = V.bl (!decide (x = .bl b)) by rw [hx.blq b])⟩
  | _ => exact p.elim
/-! {} -/
def eDnew : St → Sto → R V := fun _ S => alloc (.dK []) S
theorem fe_dnew : FE X W (.Dict [] [] pos) eDnew := ⟨PE.wk pe_dnewK fun σ H Q h => by
  obtain ⟨η, S, σ0, hR, hS, p⟩ := h
  exact fun q hq => p (η ++ [q]) _ _ (Ext.new hR hq _) (hR.new hq (o := .dK []) ⟨Nat.zero_le _, [], upd_same, .nil⟩ rfl) (VR.new hR)⟩
end
end Fx
/-! Fx: a def whose last parameter has a whole number as its default. -/
namespace Fx
open PySem PySem.Spec L2
open PyProof.Rows hiding St
variable {K : PySem.W.Frag} {η : List Addr} {S : Sto} {H : Hp}
structure DfD (P : Program) (w : World) (K : PySem.W.Frag) (mg : Str → Option Value) (base : Heap) (x : Str) (k n : Nat) (dv : Int) (m : List V → Sto → R V) : Prop where
  ex : ∃ (f : Addr) (fd : FuncData) (ps : List Str) (ds : List Value), FnOk P w K mg base (L2.CX P w) k f fd ps (spM K mg (n + 1) m) ∧ mg x = some (.ref f) ∧ PySem.W.keepIn K (.ref f) = true ∧ Binds K fd ps ds ∧ Vals [.int dv] ds
def eClD (n : Nat) (dv : Int) (m : List V → Sto → R V) (ma : St → Sto → R (List V)) : St → Sto → R V := fun σ S => (ma σ S).bind fun vs S1 => if vs.length = n then m (vs ++ [.int dv]) S1 else .bad
theorem fe_callD {X : Cx} {W : WX} {e : Expr} {pos : Pos} {x : Str} {p : Pos} {es : List Expr} {j k n : Nat} {dv : Int} {m : List V → Sto → R V} {mr : St → Sto → R (List V)} (D : DfD X.prog X.w X.K X.mg X.base x k n dv m) (hr : Room j X.A) (hj : k ≤ j) (hg : Gl X x)
    (tk : Takes X W) (ha : FA X W (e :: es) mr) (hl : (e :: es).length = n := by rfl) (hdb : (x == ("__debug__" : Str)) = false := by decide)
    (he : starEach (e :: es) X.env = (false, eval e X.env) :: starEach es X.env := by rfl) (hpl : (backTo pos (starEach es X.env)).any (·.1) = false := by rfl) : FE X W (.Call (.Name x p) (e :: es) [] pos) (eClD n dv m mr) := by
  obtain ⟨f, fd, ps, ds, h1, h2, h3, h4, h5⟩ := D.ex
  exact ⟨PE.wk (pe_callSD h1 (hr.mono hj) hg h2 h3 h4 h5 (passAt tk) ha.run hdb he hpl) fun σ H Q h => by
    obtain ⟨η, S, σ0, hR, hS, p⟩ := h
    refine ⟨η, S, σ0, hR, hS, (Po.bind (rel := VsR) p).imp fun u H1 ⟨η1, S1, v, e1, hR1, r1, p1⟩ => ?_⟩
    by_cases hv : v.length = n
    · rw [if_pos hv] at p1
      refine ⟨by rw [List.length_append, ← r1.length, hv]; rfl, η1, S1, v ++ [.int dv], hR1, papp r1 (show VsR η1 [V.int dv] [V.int dv] from .cons (show V.int dv = V.int dv from rfl) .nil), ?_⟩
      cases e : m (v ++ [.int dv]) S1 with
      | ok w S2 => rw [e] at p1; exact p1
      | exc c S2 => rw [e] at p1; exact p1
      | bad => rw [e] at p1; exact p1
    · rw [if_neg hv] at p1; exact p1.elim⟩
variable {P : Program} {w : World} {mg : Str → Option Value} {base : Heap}
abbrev FunD' (K : PySem.W.Frag) (x : Str) (st : Stmt) (dv : Int) (f : Addr) (fd : FuncData) : Prop := FunD K x x (defArgs st) (defBody st) (defScope st) [.int dv] [] f fd
theorem fn_okD {x : Str} {st : Stmt} {dv : Int} {f : Addr} {fd : FuncData} {N ps : List Str} {k : Nat} {c : St → Sto → R Fl} (F : FunD' K x st dv f fd) (S : FnScope N ps (defScope st)) (n : Nat) (hn : ps.length = n) (nN : Nat) (hN : N.length = nN)
    (hbody : ∀ (cdv : Value) (A : Around) (outer : List Env) (s : Shared) (H : Hp) (E : XK), Room k (A.deeper (envOfC x (defScope st) s.heap.objs.size f cdv)) → Takes (cxOf (L2.CX P w) P w K mg base N x (defScope st) f cdv A outer s H E) (fun cls d _ H => E cls d H) →
      PassesOwn (model P w) (A.deeper (envOfC x (defScope st) s.heap.objs.size f cdv)) (envOfC x (defScope st) s.heap.objs.size f cdv) (cxOf (L2.CX P w) P w K mg base N x (defScope st) f cdv A outer s H E).xe →
      FSs (cxOf (L2.CX P w) P w K mg base N x (defScope st) f cdv A outer s H E) (fun cls d _ H => E cls d H) (defBody st) c) : FnOk P w K mg base (L2.CX P w) (k + 1) f fd ps (spM K mg n (runF nN c)) := by
  refine F.ok S (fun vs H Q E h => h.1.trans hn.symm) fun cdv A outer s H vs Q E hr h => ?_
  refine ⟨_, (hbody cdv A outer s H E hr (takes_of rfl rfl rfl rfl) (passes_of (X := cxOf (L2.CX P w) P w K mg base N x (defScope st) f cdv A outer s H E) rfl)).run, ?_⟩
  obtain ⟨hl, η, S, vs0, hR, hv, p⟩ := h
  refine ⟨η, S, _, hR, SR.start hv N, ?_⟩
  unfold runF finF at p
  rw [← hN] at p
  cases e : c (vs0.map some ++ List.replicate (N.length - vs0.length) none) S with
  | ok fl S' =>
    rw [e] at p
    cases fl with
    | nx σ => exact fun η' H' σ1 e' r q => p η' H' .non e' r rfl
    | rt v => exact p
    | rs cc σ => exact fun η' H' σ1 C e' r q z => p η' H' C e' r z
    | bk σ => exact p.elim
    | ct σ => exact p.elim
  | exc cc S' => rw [e] at p; exact p.elim
  | bad => rw [e] at p; exact p.elim
theorem fun_mkD {x : Str} {st : Stmt} {dv : Int} {f T : Addr} {oc toc : Value} {od an tod : Option Addr} {osl tsl : Array (Option Value)} {kV doc pm cdv ct : Value} {tt : Tok} {tn : Nat}
    (l : K.lookup f = some ⟨oc, od, .func (PySem.W.fnOf x x (defArgs st) (defBody st) (defScope st) (.ref T) kV doc pm an cdv ct), osl⟩) (h : PySem.W.codeIn K cdv x = true) (k : PySem.W.keepIn K (.ref f) = true)
    (m : K.lookup T = some ⟨toc, tod, .seq #[.int dv tt] tn, tsl⟩) : FunD' K x st dv f (PySem.W.fnOf x x (defArgs st) (defBody st) (defScope st) (.ref T) kV doc pm an cdv ct) :=
  ⟨⟨oc, od, .ref T, kV, doc, pm, an, cdv, ct, osl, rfl, l, h, .inr ⟨by simp, T, _, [.int dv tt], tn, rfl, m, rfl, .cons ⟨tt, rfl⟩ .nil⟩, .inl rfl⟩, k⟩
theorem Binds.nil' {fd : FuncData} {ps : List Str} (h : ∃ ds, Vals [] ds ∧ Binds K fd ps ds) : Binds K fd ps [] := by
  obtain ⟨ds, v, b⟩ := h
  cases v
  exact b
end Fx
/-! Fx: dicts by whole numbers and texts: d[k], d[k] = v, k in d, d.get(k), len(d), sorted(d), {k: v}. -/
namespace Fx
open PySem PySem.Spec L2
open PyProof.Rows hiding St
variable {K : PySem.W.Frag} {η : List Addr} {S : Sto} {H : Hp}
def rdK (x : V) (S : Sto) : Option (List (Key × V)) := match x with
  | .ref n => match S[n]? with
    | some (.dK kvs) => some kvs
    | _ => none
  | _ => none
def keyOf (x : V) : Option Key := match x with
  | .int i => some (.inl i)
  | .str s => some (.inr s)
  | _ => none
theorem keyOf_ok {x u : V} {k : Key} (h : keyOf x = some k) (r : VR η x u) : u = kV k := by
  cases x with
  | int i => cases h; exact r
  | str i => cases h; exact r
  | _ => cases h
abbrev KP (η : List Addr) : List (Key × V) → List (Key × V) → Prop := Paired fun p q => p.1 = q.1 ∧ VR η p.2 q.2
theorem rdK_ok {x u : V} {kvs : List (Key × V)} (h : rdK x S = some kvs) (hR : Rel K η S H) (r : VR η x u) : ∃ (n : Nat) (a : Addr) (us : List (Key × V)), x = .ref n ∧ η[n]? = some a ∧ S[n]? = some (.dK kvs) ∧ u = .ref a ∧ H a = some (.dK us) ∧ KP η kvs us ∧ kvs.length ≤ sizeLine := by
  cases x with
  | ref n =>
    obtain ⟨a, ea, rfl⟩ := r
    have h : (match S[n]? with
      | some (.dK kvs) => some kvs
      | _ => none) = some kvs := h
    cases ho : S[n]? with
    | none => rw [ho] at h; cases h
    | some o =>
      rw [ho] at h
      cases o with
      | dK xs =>
        cases h
        obtain ⟨z, us, e, p⟩ := hR.ob n a _ ea ho
        exact ⟨n, a, us, rfl, ea, ho, rfl, e, p, z⟩
      | _ => cases h
  | _ => cases h
theorem KP.val {kvs us : List (Key × V)} (h : KP η kvs us) (k : Key) : (∃ v u, valV kvs k = some v ∧ valV us k = some u ∧ VR η v u) ∨ (valV kvs k = none ∧ valV us k = none) := by
  induction h with
  | nil => exact .inr ⟨rfl, rfl⟩
  | @cons p q ps qs r t ih =>
    by_cases e : p.1 = k
    · exact .inl ⟨p.2, q.2, valV_pos e, valV_pos (by rw [← r.1]; exact e), r.2⟩
    · rw [valV_neg e, valV_neg (by rw [← r.1]; exact e)]
      exact ih
theorem KP.put {kvs us : List (Key × V)} (h : KP η kvs us) (k : Key) {v u : V} (r : VR η v u) : KP η (putK kvs k v) (putK us k u) := by
  have any : (kvs.any fun kv => decide (kv.1 = k)) = (us.any fun kv => decide (kv.1 = k)) := by
    induction h with
    | nil => rfl
    | cons r t ih => rw [List.any_cons, List.any_cons, ih, r.1]
  unfold putK
  rw [any]
  split
  · rename_i hx
    clear any hx
    induction h with
    | nil => exact .nil
    | @cons p q ps qs r' t ih =>
      refine .cons ?_ ih
      show (if p.1 = k then (p.1, v) else p).1 = (if q.1 = k then (q.1, u) else q).1 ∧ VR η (if p.1 = k then (p.1, v) else p).2 (if q.1 = k then (q.1, u) else q).2
      by_cases e : p.1 = k
      · rw [if_pos e, if_pos (by rw [← r'.1]; exact e)]; exact ⟨r'.1, r⟩
      · rw [if_neg e, if_neg (by rw [← r'.1]; exact e)]; exact ⟨r'.1, r'.2⟩
  · exact papp h (.cons ⟨rfl, r⟩ .nil)
theorem KP.len {kvs us : List (Key × V)} (h : KP η kvs us) : kvs.length = us.length := Paired.length h
section
variable {X : Cx} {W : WX} {a b : Expr} {ma mb : St → Sto → R V} {pos apos cpos : Pos}
/-! d[k] -/
def dixM : V → V → Sto → R V := fun x y S => match rdK x S with
  | some kvs => match keyOf y with
    | some k => match valV kvs k with
      | some v => .ok v S
      | none => .bad
    | none => .bad
  | none => .bad
def rDix : R2 := fun x y H Q => ∃ a v, x = .ref a ∧ DGet H a y (some v) ∧ Q v H
theorem dixM_ok : OpM X rDix dixM := by
  intro W σ η S H x y u v Q hR hx hy p
  unfold dixM at p
  cases e : rdK x S with
  | none => rw [e] at p; exact p.elim
  | some kvs =>
    obtain ⟨n, a, us, rfl, ea, ho, rfl, hu, kp, z⟩ := rdK_ok e hR hx
    rw [e] at p
    cases ek : keyOf y with
    | none => rw [ek] at p; exact p.elim
    | some k =>
      cases keyOf_ok ek hy
      rw [ek] at p
      dsimp only at p
      rcases kp.val k with ⟨v, w, h1, h2, r⟩ | ⟨h1, h2⟩
      · rw [h1] at p
        exact ⟨a, w, rfl, h2 ▸ DGet.k hu, p.now hR r⟩
      · rw [h1] at p; exact p.elim
theorem fe_dix (hu : X.A.units + 1 < cLine) (ha : FE X W a ma) (hb : FE X W b mb) (hs : NoSl b := by intro _ _; rfl) : FE X W (.Subscript a b pos) (eO dixM ma mb) :=
  ⟨PE.wk (pe_dget hu ha.run hb.run hs) fun σ H Q h => lf_bin dixM_ok h⟩
/-! k in d -/
def dinM (neg : Bool) : V → V → Sto → R V := fun y x S => match rdK x S with
  | some kvs => match keyOf y with
    | some k => .ok (.bl (if neg = true then !(valV kvs k).isSome else (valV kvs k).isSome)) S
    | none => .bad
  | none => .bad
def rDin (neg : Bool) : R2 := fun y x H Q => ∃ a o, x = .ref a ∧ DGet H a y o ∧ Q (.bl (if neg = true then !o.isSome else o.isSome)) H
theorem dinM_ok {neg : Bool} : OpM X (rDin neg) (dinM neg) := by
  intro W σ η S H y x v u Q hR hy hx p
  unfold dinM at p
  cases e : rdK x S with
  | none => rw [e] at p; exact p.elim
  | some kvs =>
    obtain ⟨n, a, us, rfl, ea, ho, rfl, hu, kp, z⟩ := rdK_ok e hR hx
    rw [e] at p
    cases ek : keyOf y with
    | none => rw [ek] at p; exact p.elim
    | some k =>
      cases keyOf_ok ek hy
      rw [ek] at p
      refine ⟨a, _, rfl, DGet.k hu, p.now hR ?_⟩
      rcases kp.val k with ⟨v, w, h1, h2, r⟩ | ⟨h1, h2⟩
      · rw [h1, h2]; rfl
      · rw [h1, h2]; rfl
theorem fe_din (hu : X.A.units + 1 < cLine) (ha : FE X W a ma) (hb : FE X W b mb) (hk : behindInMarks .In b = false := by rfl) : FE X W (.Compare a [.In] [b] pos) (eO (dinM false) ma mb) :=
  ⟨PE.wk (pe_cmp (pc_din hu ha.run hb.run) hk) fun σ H Q h => lf_bin (dinM_ok (neg := false)) h⟩
theorem fe_dnin (hu : X.A.units + 1 < cLine) (ha : FE X W a ma) (hb : FE X W b mb) (hk : behindInMarks .NotIn b = false := by rfl) : FE X W (.Compare a [.NotIn] [b] pos) (eO (dinM true) ma mb) :=
  ⟨PE.wk (pe_cmp (pc_dnotin hu ha.run hb.run) hk) fun σ H Q h => lf_bin (dinM_ok (neg := true)) h⟩
theorem ft_din (hu : X.A.units + 1 < cLine) (ha : FE X W a ma) (hb : FE X W b mb) (hk : behindInMarks .In b = false := by rfl) : FT X W (.Compare a [.In] [b] pos) (tV (eO (dinM false) ma mb)) :=
  ⟨PT.wk (pt_cmp (pc_din hu ha.run hb.run) hk) fun σ H Q h => tV_of (fun σ H Q h => lf_bin (dinM_ok (neg := false)) h) h⟩
theorem ft_dnin (hu : X.A.units + 1 < cLine) (ha : FE X W a ma) (hb : FE X W b mb) (hk : behindInMarks .NotIn b = false := by rfl) : FT X W (.Compare a [.NotIn] [b] pos) (tV (eO (dinM true) ma mb)) :=
  ⟨PT.wk (pt_cmp (pc_dnotin hu ha.run hb.run) hk) fun σ H Q h => tV_of (fun σ H Q h => lf_bin (dinM_ok (neg := true)) h) h⟩
/-! d[k] = v -/
def setD : V → V → V → Sto → R Unit := fun o i v S => match o with
  | .ref n => match rdK (.ref n) S with
    | some kvs => match keyOf i with
      | some k => if kvs.length < lim then .ok () (S.set n (.dK (putK kvs k v))) else .bad
      | none => .bad
    | none => .bad
  | _ => .bad
theorem setD_ok : SetM X rSetD setD := by
  intro W σ η S H o i v uo ui uv Q hR ho hi hv p
  unfold setD at p
  split at p
  · rename_i n
    split at p
    · rename_i kvs e
      obtain ⟨n', a, us, e', ea, hS, rfl, hu, kp, z⟩ := rdK_ok e hR ho
      cases e'
      split at p
      · rename_i k ek
        cases keyOf_ok ek hi
        split at p
        · rename_i hl
          have hl' : kvs.length < sizeLine := hl
          have hz : (putK kvs k v).length ≤ sizeLine := by have := length_putK kvs k v; omega
          refine ⟨a, _, rfl, DPut.k hu (by rw [← kp.len]; exact hl'), ?_⟩
          exact p η _ () (Ext.set hR ea hS rfl) (hR.set ea hS rfl ⟨hz, _, upd_same, kp.put k hv⟩ rfl) trivial
        · exact p.elim
      · exact p.elim
    · exact p.elim
  · exact p.elim
/-! d.get(k) -/
def eGet (mo mk : St → Sto → R V) : St → Sto → R V := fun σ S => (mo σ S).bind fun x S1 => match rdK x S1 with
  | some _ => (mk σ S1).bind fun y S2 => match rdK x S2 with
    | some kvs => match keyOf y with
      | some k => .ok ((valV kvs k).getD .non) S2
      | none => .bad
    | none => .bad
  | none => .bad
theorem fe_get1 (hu : X.A.units + 1 < cLine) (ha : FE X W a ma) (hb : FE X W b mb) (m : M1 X a "get" apos b cpos := by exact ⟨rfl, rfl, rfl, rfl⟩) : FE X W (.Call (.Attribute a "get" apos) [b] [] cpos) (eGet ma mb) :=
  ⟨PE.wk (pe_dget1 hu ha.run hb.run m) fun σ H Q h => by
    obtain ⟨η, S, σ0, hR, hS, p⟩ := h
    refine ⟨η, S, σ0, hR, hS, (Po.bind (rel := VR) p).imp fun u H1 ⟨η1, S1, v, e1, hR1, r1, p1⟩ => ?_⟩
    cases e : rdK v S1 with
    | none => rw [e] at p1; exact p1.elim
    | some kvs =>
      obtain ⟨n, a', us, rfl, ea, ho, rfl, hu', kp, z⟩ := rdK_ok e hR1 r1
      rw [e] at p1
      refine ⟨a', rfl, .inl ⟨us, .inl hu'⟩, η1, S1, σ0, hR1, hS.mono e1.1, (Po.bind (rel := VR) p1).imp fun w H2 ⟨η2, S2, y, e2, hR2, r2, p2⟩ => ?_⟩
      cases e' : rdK (.ref n) S2 with
      | none => rw [e'] at p2; exact p2.elim
      | some kvs2 =>
        obtain ⟨n', a2, us2, en, ea2, ho2, e3, hu2, kp2, z2⟩ := rdK_ok e' hR2 (r1.mono e2.1)
        cases e3
        rw [e'] at p2
        cases ek : keyOf y with
        | none => rw [ek] at p2; exact p2.elim
        | some k =>
          cases keyOf_ok ek r2
          rw [ek] at p2
          refine ⟨_, DGet.k hu2, p2.now hR2 ?_⟩
          rcases kp2.val k with ⟨v, w, h1, h2, r⟩ | ⟨h1, h2⟩
          · rw [h1, h2]; exact r
          · rw [h1, h2]; exact (show V.non = V.non from rfl)⟩
/-! len(d), sorted(d) -/
def lenDM : List V → Sto → R V := fun vs S => match vs with
  | [x] => match rdK x S with
    | some kvs => .ok (.int kvs.length) S
    | none => .bad
  | _ => .bad
theorem lenDM_ok : CallM X (fun xs H Q => ∃ a kvs, xs = [V.ref a] ∧ H a = some (.dK kvs) ∧ Q (.int kvs.length) H) lenDM := by
  intro W σ η S H xs us Q hR hx p
  unfold lenDM at p
  split at p
  · rename_i x
    obtain ⟨u, rfl, r⟩ := VsR.one hx
    split at p
    · rename_i kvs h
      obtain ⟨n, a, us, rfl, ea, ho, rfl, hu, kp, z⟩ := rdK_ok h hR r
      exact ⟨a, us, rfl, hu, p.now hR (show V.int _ = V.int _ by rw [kp.len])⟩
    · exact p.elim
  · exact p.elim
def intKeys : List (Key × V) → Option (List Int)
  | [] => some []
  | (.inl i, _) :: r => (intKeys r).map (i :: ·)
  | (.inr _, _) :: _ => none
theorem intKeys_eq : ∀ {kvs us : List (Key × V)} {ks : List Int}, intKeys kvs = some ks → KP η kvs us → us.map (·.1) = ks.map Sum.inl
  | [], _, _, h, .nil => by cases h; rfl
  | (.inl i, _) :: r, _, _, h, .cons q t => by
    unfold intKeys at h
    cases e : intKeys r with
    | none => rw [e] at h; cases h
    | some ms =>
      rw [e] at h
      cases h
      rw [List.map_cons, intKeys_eq e t, ← q.1]
      rfl
  | (.inr _, _) :: _, _, _, h, _ => by cases h
def sortKM : List V → Sto → R V := fun vs S => match vs with
  | [x] => match rdK x S with
    | some kvs => match intKeys kvs with
      | some ks => if ks.length < 64 then alloc (.lst ((upS ks).map V.int)) S else .bad
      | none => .bad
    | none => .bad
  | _ => .bad
theorem sortKM_ok : CallM X (fun xs H Q => ∃ (a : Addr) (kvs : List (Key × V)) (ks : List Int), xs = [.ref a] ∧ Rd H a (.dK kvs) ∧ kvs.map (·.1) = ks.map Sum.inl ∧ ks.length < 64 ∧ ∀ (ys : List Int) (p : Addr), ys.Perm ks → ys.Pairwise (· ≤ ·) → H p = none → Q (.ref p) (upd H p (.lst (ys.map V.int)))) sortKM := by
  intro W σ η S H xs us Q hR hx p
  unfold sortKM at p
  split at p
  · rename_i x
    obtain ⟨u, rfl, r⟩ := VsR.one hx
    split at p
    · rename_i kvs h
      obtain ⟨n, a, us, rfl, ea, ho, rfl, hu, kp, z⟩ := rdK_ok h hR r
      split at p
      · rename_i ks hk
        split at p
        · rename_i hl
          refine ⟨a, us, ks, rfl, .inl hu, intKeys_eq hk kp, hl, fun ys q hp ho hn => ?_⟩
          rw [upS_unique hp ho]
          exact p.lst hR (VsR.mapI η _) (by rw [List.length_map, (upS_perm ks).length_eq, sizeLine_eq]; omega) q hn
        · exact p.elim
      · exact p.elim
    · exact p.elim
  · exact p.elim
theorem Room.u1 {k : Nat} {A : Around} (r : Room k A) : A.units + 1 < cLine := by have := r.un; omega
/-! {k: v} -/
def eD1 (mk mv : St → Sto → R V) : St → Sto → R V := fun σ S => (mk σ S).nox.bind fun x S1 => (mv σ S1).nox.bind fun y S2 => match keyOf x with
  | some k => alloc (.dK [(k, y)]) S2
  | none => .bad
theorem Po.bindC {α β γ δ : Type} {mg : Str → Option Value} {W W' : WX} {σ σ' : St} {rel : List Addr → α → β → Prop} {rel2 : List Addr → γ → δ → Prop} {η1 : List Addr} {H1 : Hp} {r : R α} {f : α → Sto → R γ} {Q : δ → Hp → Prop} (p : Po K mg W σ rel2 η1 H1 (r.nox.bind f) Q) :
    Po K mg W' σ' rel η H r (fun u H' => ∃ η' S' v, Ext η H η' H' ∧ Rel K η' S' H' ∧ rel η' v u ∧ Po K mg W σ rel2 η1 H1 (f v S') Q) := by
  cases r with
  | ok v S' => exact fun η' H' u e' r q => ⟨η', S', v, e', r, q, p⟩
  | exc c S' => exact p.elim
  | bad => exact p.elim
theorem fe_disp1 (ha : FE X W a ma) (hb : FE X W b mb) : FE X W (.Dict [some a] [b] pos) (eD1 ma mb) :=
  ⟨PE.wk (pe_disp (pps_cons ha.run hb.run pps_nil) (by rfl) (by rfl) (fun z => by cases z) (show 1 ≤ 15 by decide)) fun σ H Q h => by
    obtain ⟨η, S, σ0, hR, hS, p⟩ := h
    intro D hD
    have hDo := hR.off hD
    refine ⟨η, S, σ0, hR.side hD _, hS, (Po.bindC (rel := VR) (η := η) (H := upd H D (.dK [])) p).imp fun u H1 ⟨η1, S1, v, e1, hR1, r1, p1⟩ => ?_⟩
    have f1 := e1.2.1 D _ upd_same hDo rfl
    refine ⟨η1, S1, σ0, hR1, hS.mono e1.1, (Po.bindC (rel := VR) (η := η1) (H := H1) p1).imp fun w H2 ⟨η2, S2, y, e2, hR2, r2, p2⟩ => ?_⟩
    have f2 := e2.2.1 D _ f1.1 f1.2 rfl
    show H2 D = some (.dK []) ∧ ∃ kvs : List (Key × V), [(u, w)] = kvs.map (fun kv => (kV kv.1, kv.2)) ∧ kvs.length ≤ 15 ∧ Q (.ref D) (upd H2 D (.dK (mergeK [] kvs)))
    refine ⟨f2.1, ?_⟩
    cases ek : keyOf v with
    | none => rw [ek] at p2; exact p2.elim
    | some k =>
      rw [ek] at p2
      have eu := keyOf_ok ek r1
      refine ⟨[(k, w)], by rw [eu]; rfl, (show 1 ≤ 15 by decide), ?_⟩
      refine p2 (η2 ++ [D]) _ (.ref D) (Ext.add (hR2.other f2.2 (fun o us' q => by rw [f2.1] at q; cases q) _ (imm_dK f2.1)) ((((Ext.side hD _).trans e1).trans e2).upd hD _) hD) ((hR2.other f2.2 (fun o us' q => by rw [f2.1] at q; cases q) _ (imm_dK f2.1)).add f2.2 (o := .dK [(k, y)]) ⟨by rw [sizeLine_eq]; simp, _, upd_same, .cons ⟨rfl, r2.mono (List.prefix_append _ _)⟩ .nil⟩ rfl) (VR.new hR2)⟩
end
end Fx
/-! Fx: dicts by tuples of whole numbers and texts: d[k], d[k] = v, k in d, len(d), {}. -/
namespace Fx
open PySem PySem.Spec L2
open PyProof.Rows hiding St
variable {K : PySem.W.Frag} {η : List Addr} {S : Sto} {H : Hp}
abbrev TK := List Key
def rdD (x : V) (S : Sto) : Option (List (TK × V)) := match x with
  | .ref n => match S[n]? with
    | some (.dT kvs) => some kvs
    | _ => none
  | _ => none
def keysOf : List V → Option TK
  | [] => some []
  | x :: r => match keyOf x with
    | some k => (keysOf r).map (k :: ·)
    | none => none
theorem keysOf_ok : ∀ {xs us : List V} {ks : TK}, keysOf xs = some ks → VsR η xs us → us = ks.map kV
  | [], _, _, h, .nil => by cases h; rfl
  | x :: r, _, _, h, .cons q t => by
    unfold keysOf at h
    cases e : keyOf x with
    | none => rw [e] at h; cases h
    | some k =>
      rw [e] at h
      cases e2 : keysOf r with
      | none => rw [e2] at h; cases h
      | some ms =>
        rw [e2] at h
        cases h
        rw [List.map_cons, keysOf_ok e2 t, keyOf_ok e q]
def keyT (y : V) (S : Sto) : Option TK := (rdT y S).bind keysOf
theorem keyT_ok {y v : V} {k : TK} (h : keyT y S = some k) (hR : Rel K η S H) (r : VR η y v) : ∃ b, v = .ref b ∧ H b = some (.tup (k.map kV)) := by
  unfold keyT at h
  cases e : rdT y S with
  | none => rw [e] at h; cases h
  | some xs =>
    rw [e] at h
    obtain ⟨a, us, rfl, hu, r2, _⟩ := rdT_ok e hR r
    rw [keysOf_ok (show keysOf xs = some k from h) r2] at hu
    exact ⟨a, rfl, hu⟩
abbrev KPT (η : List Addr) : List (TK × V) → List (TK × V) → Prop := Paired fun p q => p.1 = q.1 ∧ VR η p.2 q.2
theorem rdD_ok {x u : V} {kvs : List (TK × V)} (h : rdD x S = some kvs) (hR : Rel K η S H) (r : VR η x u) : ∃ (n : Nat) (a : Addr) (us : List (TK × V)), x = .ref n ∧ η[n]? = some a ∧ S[n]? = some (.dT kvs) ∧ u = .ref a ∧ H a = some (.dT us) ∧ KPT η kvs us ∧ kvs.length ≤ sizeLine := by
  cases x with
  | ref n =>
    obtain ⟨a, ea, rfl⟩ := r
    have h : (match S[n]? with
      | some (.dT kvs) => some kvs
      | _ => none) = some kvs := h
    cases ho : S[n]? with
    | none => rw [ho] at h; cases h
    | some o =>
      rw [ho] at h
      cases o with
      | dT xs =>
        cases h
        obtain ⟨z, us, e, p⟩ := hR.ob n a _ ea ho
        exact ⟨n, a, us, rfl, ea, ho, rfl, e, p, z⟩
      | _ => cases h
  | _ => cases h
theorem KPT.val {kvs us : List (TK × V)} (h : KPT η kvs us) (k : TK) : (∃ v u, valV kvs k = some v ∧ valV us k = some u ∧ VR η v u) ∨ (valV kvs k = none ∧ valV us k = none) := by
  induction h with
  | nil => exact .inr ⟨rfl, rfl⟩
  | @cons p q ps qs r t ih =>
    by_cases e : p.1 = k
    · exact .inl ⟨p.2, q.2, valV_pos e, valV_pos (by rw [← r.1]; exact e), r.2⟩
    · rw [valV_neg e, valV_neg (by rw [← r.1]; exact e)]
      exact ih
theorem KPT.put {kvs us : List (TK × V)} (h : KPT η kvs us) (k : TK) {v u : V} (r : VR η v u) : KPT η (putK kvs k v) (putK us k u) := by
  have any : (kvs.any fun kv => decide (kv.1 = k)) = (us.any fun kv => decide (kv.1 = k)) := by
    induction h with
    | nil => rfl
    | cons r t ih => rw [List.any_cons, List.any_cons, ih, r.1]
  unfold putK
  rw [any]
  split
  · rename_i hx
    clear any hx
    induction h with
    | nil => exact .nil
    | @cons p q ps qs r' t ih =>
      refine .cons ?_ ih
      show (if p.1 = k then (p.1, v) else p).1 = (if q.1 = k then (q.1, u) else q).1 ∧ VR η (if p.1 = k then (p.1, v) else p).2 (if q.1 = k then (q.1, u) else q).2
      by_cases e : p.1 = k
      · rw [if_pos e, if_pos (by rw [← r'.1]; exact e)]; exact ⟨r'.1, r⟩
      · rw [if_neg e, if_neg (by rw [← r'.1]; exact e)]; exact ⟨r'.1, r'.2⟩
  · exact papp h (.cons ⟨rfl, r⟩ .nil)
theorem KPT.len {kvs us : List (TK × V)} (h : KPT η kvs us) : kvs.length = us.length := Paired.length h
section
variable {X : Cx} {W : WX} {a b : Expr} {ma mb : St → Sto → R V} {pos apos cpos : Pos}
def dixT : V → V → Sto → R V := fun x y S => match rdD x S with
  | some kvs => match keyT y S with
    | some k => match valV kvs k with
      | some v => .ok v S
      | none => .bad
    | none => .bad
  | none => .bad
theorem dixT_ok : OpM X rDix dixT := by
  intro W σ η S H x y u v Q hR hx hy p
  unfold dixT at p
  cases e : rdD x S with
  | none => rw [e] at p; exact p.elim
  | some kvs =>
    obtain ⟨n, a, us, rfl, ea, ho, rfl, hu, kp, z⟩ := rdD_ok e hR hx
    rw [e] at p
    cases ek : keyT y S with
    | none => rw [ek] at p; exact p.elim
    | some k =>
      obtain ⟨b, rfl, hb⟩ := keyT_ok ek hR hy
      rw [ek] at p
      dsimp only at p
      rcases kp.val k with ⟨v, w, h1, h2, r⟩ | ⟨h1, h2⟩
      · rw [h1] at p
        exact ⟨a, w, rfl, h2 ▸ DGet.t hu hb, p.now hR r⟩
      · rw [h1] at p; exact p.elim
theorem fe_dixT (hu : X.A.units + 1 < cLine) (ha : FE X W a ma) (hb : FE X W b mb) (hs : NoSl b := by intro _ _; rfl) : FE X W (.Subscript a b pos) (eO dixT ma mb) :=
  ⟨PE.wk (pe_dget hu ha.run hb.run hs) fun σ H Q h => lf_bin dixT_ok h⟩
def dinT (neg : Bool) : V → V → Sto → R V := fun y x S => match rdD x S with
  | some kvs => match keyT y S with
    | some k => .ok (.bl (if neg = true then !(valV kvs k).isSome else (valV kvs k).isSome)) S
    | none => .bad
  | none => .bad
theorem dinT_ok {neg : Bool} : OpM X (rDin neg) (dinT neg) := by
  intro W σ η S H y x v u Q hR hy hx p
  unfold dinT at p
  cases e : rdD x S with
  | none => rw [e] at p; exact p.elim
  | some kvs =>
    obtain ⟨n, a, us, rfl, ea, ho, rfl, hu, kp, z⟩ := rdD_ok e hR hx
    rw [e] at p
    cases ek : keyT y S with
    | none => rw [ek] at p; exact p.elim
    | some k =>
      obtain ⟨b, rfl, hb⟩ := keyT_ok ek hR hy
      rw [ek] at p
      refine ⟨a, _, rfl, DGet.t hu hb, p.now hR ?_⟩
      rcases kp.val k with ⟨v, w, h1, h2, r⟩ | ⟨h1, h2⟩
      · rw [h1, h2]; rfl
      · rw [h1, h2]; rfl
theorem fe_dinT (hu : X.A.units + 1 < cLine) (ha : FE X W a ma) (hb : FE X W b mb) (hk : behindInMarks .In b = false := by rfl) : FE X W (.Compare a [.In] [b] pos) (eO (dinT false) ma mb) :=
  ⟨PE.wk (pe_cmp (pc_din hu ha.run hb.run) hk) fun σ H Q h => lf_bin (dinT_ok (neg := false)) h⟩
theorem fe_dninT (hu : X.A.units + 1 < cLine) (ha : FE X W a ma) (hb : FE X W b mb) (hk : behindInMarks .NotIn b = false := by rfl) : FE X W (.Compare a [.NotIn] [b] pos) (eO (dinT true) ma mb) :=
  ⟨PE.wk (pe_cmp (pc_dnotin hu ha.run hb.run) hk) fun σ H Q h => lf_bin (dinT_ok (neg := true)) h⟩
theorem ft_dinT (hu : X.A.units + 1 < cLine) (ha : FE X W a ma) (hb : FE X W b mb) (hk : behindInMarks .In b = false := by rfl) : FT X W (.Compare a [.In] [b] pos) (tV (eO (dinT false) ma mb)) :=
  ⟨PT.wk (pt_cmp (pc_din hu ha.run hb.run) hk) fun σ H Q h => tV_of (fun σ H Q h => lf_bin (dinT_ok (neg := false)) h) h⟩
theorem ft_dninT (hu : X.A.units + 1 < cLine) (ha : FE X W a ma) (hb : FE X W b mb) (hk : behindInMarks .NotIn b = false := by rfl) : FT X W (.Compare a [.NotIn] [b] pos) (tV (eO (dinT true) ma mb)) :=
  ⟨PT.wk (pt_cmp (pc_dnotin hu ha.run hb.run) hk) fun σ H Q h => tV_of (fun σ H Q h => lf_bin (dinT_ok (neg := true)) h) h⟩
def setT : V → V → V → Sto → R Unit := fun o i v S => match o with
  | .ref n => match rdD (.ref n) S with
    | some kvs => match keyT i S with
      | some k => if kvs.length < lim then .ok () (S.set n (.dT (putK kvs k v))) else .bad
      | none => .bad
    | none => .bad
  | _ => .bad
theorem setT_ok : SetM X rSetD setT := by
  intro W σ η S H o i v uo ui uv Q hR ho hi hv p
  unfold setT at p
  split at p
  · rename_i n
    split at p
    · rename_i kvs e
      obtain ⟨n', a, us, e', ea, hS, rfl, hu, kp, z⟩ := rdD_ok e hR ho
      cases e'
      split at p
      · rename_i k ek
        obtain ⟨b, rfl, hb⟩ := keyT_ok ek hR hi
        split at p
        · rename_i hl
          have hl' : kvs.length < sizeLine := hl
          have hz : (putK kvs k v).length ≤ sizeLine := by have := length_putK kvs k v; omega
          refine ⟨a, _, rfl, DPut.t hu hb (by rw [← kp.len]; exact hl'), ?_⟩
          exact p η _ () (Ext.set hR ea hS rfl) (hR.set ea hS rfl ⟨hz, _, upd_same, kp.put k hv⟩ rfl) trivial
        · exact p.elim
      · exact p.elim
    · exact p.elim
  · exact p.elim
def lenDT : List V → Sto → R V := fun vs S => match vs with
  | [x] => match rdD x S with
    | some kvs => .ok (.int kvs.length) S
    | none => .bad
  | _ => .bad
def eDnewT : St → Sto → R V := fun _ S => alloc (.dT []) S
theorem fe_dnewT : FE X W (.Dict [] [] pos) eDnewT := ⟨PE.wk pe_dnewT fun σ H Q h => by
  obtain ⟨η, S, σ0, hR, hS, p⟩ := h
  exact fun q hq => p (η ++ [q]) _ _ (Ext.new hR hq _) (hR.new hq (o := .dT []) ⟨Nat.zero_le _, [], upd_same, .nil⟩ rfl) (VR.new hR)⟩
end
end Fx
/-! Fx: x in xs and xs.index(x) by data; comprehensions over a dict's keys. -/
namespace Fx
open PySem PySem.Spec L2
open PyProof.Rows hiding St
variable {K : PySem.W.Frag} {η : List Addr} {S : Sto} {H : Hp}
theorem Room.u65 {k : Nat} {A : Around} (r : Room k A) : A.units + 65 < cLine := by have := r.un; omega
section
variable {X : Cx} {W : WX} {a b : Expr} {ma mb : St → Sto → R V} {pos apos cpos : Pos}
def inD (neg : Bool) (x y : V) (S : Sto) : Option Bool := match toD 5 S x, toD 5 S y with
  | some d, some (.list ds) => if SeqAt.shaped d = true ∧ SeqAt.shaped (.list ds) = true then some (if neg = true then !ds.any fun z => PyData.eqv z d else ds.any fun z => PyData.eqv z d) else none
  | _, _ => none
def inDM (neg : Bool) : V → V → Sto → R V := fun x y S => match inD neg x y S with
  | some b => .ok (.bl b) S
  | none => .bad
theorem inDM_in : OpM X (rInD X.K) (inDM false) := by
  intro W σ η S H x y u v Q hR hx hy p
  unfold inDM inD at p
  split at p
  · rename_i b hb
    split at hb
    · rename_i d ds hd hds
      split at hb
      · rename_i hs
        cases hb
        exact ⟨d, ds, toD_ok hR 5 x u d hd hx, toD_ok hR 5 y v _ hds hy, hs.1, hs.2, p.now hR rfl⟩
      · cases hb
    · cases hb
  · exact p.elim
theorem inDM_notIn : OpM X (rNotInD X.K) (inDM true) := by
  intro W σ η S H x y u v Q hR hx hy p
  unfold inDM inD at p
  split at p
  · rename_i b hb
    split at hb
    · rename_i d ds hd hds
      split at hb
      · rename_i hs
        cases hb
        exact ⟨d, ds, toD_ok hR 5 x u d hd hx, toD_ok hR 5 y v _ hds hy, hs.1, hs.2, p.now hR rfl⟩
      · cases hb
    · cases hb
  · exact p.elim
theorem fe_inD (hu : X.A.units + 65 < cLine) (ha : FE X W a ma) (hb : FE X W b mb) (hk : behindInMarks .In b = false := by rfl) : FE X W (.Compare a [.In] [b] pos) (eO (inDM false) ma mb) := fe_cmp (op_inD hu) inDM_in ha hb hk
theorem fe_ninD (hu : X.A.units + 65 < cLine) (ha : FE X W a ma) (hb : FE X W b mb) (hk : behindInMarks .NotIn b = false := by rfl) : FE X W (.Compare a [.NotIn] [b] pos) (eO (inDM true) ma mb) := fe_cmp (op_notInD hu) inDM_notIn ha hb hk
theorem ft_inD (hu : X.A.units + 65 < cLine) (ha : FE X W a ma) (hb : FE X W b mb) (hk : behindInMarks .In b = false := by rfl) : FT X W (.Compare a [.In] [b] pos) (tV (eO (inDM false) ma mb)) := ft_cmp (op_inD hu) inDM_in ha hb hk
theorem ft_ninD (hu : X.A.units + 65 < cLine) (ha : FE X W a ma) (hb : FE X W b mb) (hk : behindInMarks .NotIn b = false := by rfl) : FT X W (.Compare a [.NotIn] [b] pos) (tV (eO (inDM true) ma mb)) := ft_cmp (op_notInD hu) inDM_notIn ha hb hk
/-! xs.index(x) -/
def indexDM : V → List V → Sto → R V := fun x vs S => match vs with
  | [y] => match toD 5 S x, toD 5 S y with
    | some (.list ds), some d => if SeqAt.shaped (.list ds) = true ∧ SeqAt.shaped d = true then (match ds.findIdx? fun z => PyData.eqv z d with
      | some j => .ok (.int j) S
      | none => .bad) else .bad
    | _, _ => .bad
  | _ => .bad
theorem indexDM_ok : MtM X (rIndexD X.K) indexDM := by
  intro W σ η S H x u xs us Q hR rx rs p
  unfold indexDM at p
  split at p
  · rename_i y
    obtain ⟨v, rfl, ry⟩ := VsR.one rs
    split at p
    · rename_i ds d hds hd
      split at p
      · rename_i hs
        split at p
        · rename_i j hj
          obtain ⟨hjl, h1, h2⟩ := List.findIdx?_eq_some_iff_getElem.mp hj
          have hx := toD_ok hR 5 x u _ hds rx
          have hu : ∃ a, u = V.ref a := by
            cases hx with
            | lst => exact ⟨_, rfl⟩
          obtain ⟨a, rfl⟩ := hu
          refine ⟨a, v, d, ds, j, ds[j], rfl, rfl, hx, toD_ok hR 5 y v d hd ry, hs.1, hs.2, List.getElem?_eq_getElem hjl, h1, fun m z' hm hz => ?_, p.now hR rfl⟩
          obtain ⟨hml, rfl⟩ := List.getElem?_eq_some_iff.mp hz
          have := h2 m hm
          simpa using this
        · exact p.elim
      · exact p.elim
    · exact p.elim
  · exact p.elim
end
end Fx
/-! Fx: a comprehension over the keys of a dict by tuples (the dict is locked the while). -/
namespace Fx
open PySem PySem.Spec L2
open PyProof.Rows hiding St
variable {K : PySem.W.Frag} {η : List Addr} {S : Sto} {H : Hp}
/-- JR, told from a heap on -/
structure JX (K : PySem.W.Frag) (η : List Addr) (H0 : Hp) (a : AI) (J : It) : Prop where
  len : a.1.length ≤ sizeLine
  go : ∀ η' S H i it, Ext η H0 η' H → Rel K η' S H → a.2 S = true → a.1[i]? = some it → J.go i H ∧ ∀ x H', J.yld i H x H' → YldR η' it H x H'
  stop : ∀ η' S H, Ext η H0 η' H → Rel K η' S H → a.2 S = true → J.stop a.1.length H
section
variable {X : Cx} {W : WX} {e : Expr} {m : St → Sto → R V} {pos : Pos}
theorem lf_lcX {tg : Itm → St → Sto → R St} {tt : St → Sto → R Bool} {te : St → Sto → R V} {own : List Nat} {g : TG} {is : List Nat}
    (hg : ∀ η S H σ0 σ it x H' Q, Rel X.K η S H → SR η σ0 σ → YldR η it H x H' → Po X.K X.mg W0 σ SR η H (tg it σ0 S) Q → g x σ H' fun σ2 H2 => (∃ us, σ2 = gTs is us σ) ∧ Q σ2 H2)
    (hm : ∀ x σ H Q Q', (∀ a b, Q a b → Q' a b) → g x σ H Q → g x σ H Q') (his : ∀ i ∈ is, i ∈ own) {σ σ0 : St} {Q : VK} {η1 : List Addr} {S1 : Sto} {H1 : Hp} {items : List Itm} {chk : Sto → Bool} {J : It} (hR1 : Rel X.K η1 S1 H1) (hS : SR η1 σ0 σ) (j : JX X.K η1 H1 (items, chk) J)
    (p1 : Po X.K X.mg W σ VR η1 H1 ((compM chk tg tt te items (wipe σ0 own) S1).bind fun ys S2 => alloc (.lst ys) S2) Q) (wi : TI) (hi : ∀ R : It → Hp → Prop, R J H1 → wi σ H1 R) : tLc wi g (lfT X W0 tt) (lfE X W0 te) own σ H1 Q := by
  refine hi _ ?_
  intro D hD
  have hSw : ∀ η2, η1 <+: η2 → SR η2 (wipe σ0 own) (wipe σ own) := fun η2 h2 => (hS.mono h2).wipe own
  refine ⟨fun i m H => m = items.length - i ∧ i ≤ items.length ∧ ∃ η S acc us, Ext η1 H1 η H ∧ Rel X.K η S H ∧ H D = some (.lst us) ∧ VsR η acc us ∧ D ∉ η.drop 1 ∧ acc.length ≤ i ∧
    Po X.K X.mg W σ VR η1 H1 ((compM chk tg tt te (items.drop i) (wipe σ0 own) S).bind fun ys S2 => alloc (.lst (acc ++ ys)) S2) Q, ?_, ?_⟩
  · exact ⟨items.length, by simp, Nat.zero_le _, η1, S1, [], [], Ext.side hD _, hR1.side hD _, upd_same, .nil, hR1.off hD, Nat.le_refl _, p1⟩
  · rintro i mm H2 ⟨rfl, hil, η2, S2, acc, us, e2, hR2, hDu, hacc, hDo, hal, p2⟩
    by_cases hlt : i < items.length
    · have ed : items.drop i = items[i] :: items.drop (i + 1) := (List.drop_eq_getElem_cons hlt)
      rw [ed] at p2
      unfold compM at p2
      by_cases hk : chk S2 = true
      · rw [if_pos hk] at p2
        obtain ⟨hgo, hy⟩ := j.go η2 S2 H2 i items[i] e2 hR2 hk (List.getElem?_eq_getElem hlt)
        refine .inr ⟨hgo, fun H' => ∃ η S acc us, Ext η1 H1 η H' ∧ Rel X.K η S H' ∧ H' D = some (.lst us) ∧ VsR η acc us ∧ D ∉ η.drop 1 ∧ acc.length ≤ i + 1 ∧
          Po X.K X.mg W σ VR η1 H1 ((compM chk tg tt te (items.drop (i + 1)) (wipe σ0 own) S).bind fun ys S2 => alloc (.lst (acc ++ ys)) S2) Q, fun H' q => ⟨items.length - (i + 1), by omega, rfl, hlt, q⟩, fun x H' y => ?_⟩
        have as : ∀ {α β γ : Type} (r : R α) (f : α → Sto → R β) (k : β → Sto → R γ), (r.bind f).bind k = r.bind fun a S => (f a S).bind k := fun r f k => by cases r <;> rfl
        rw [as] at p2
        refine hm _ _ _ _ _ (fun σ3 H3 z => ?_) (hg η2 S2 H2 (wipe σ0 own) (wipe σ own) items[i] x H' _ hR2 (hSw η2 e2.1) (hy x H' y) (Po.bindB (rel := SR) (η := η2) (H := H2) p2))
        obtain ⟨⟨us3, rfl⟩, η3, S3, σ03, e3, hR3, hS3, p3⟩ := z
        refine ⟨by rw [wipe_sets his, wipe_wipe], ?_⟩
        rw [as] at p3
        refine ⟨η3, S3, σ03, hR3, hS3, (Po.bindB (rel := fun _ a b => b = a) (η := η3) (H := H3) p3).imp fun b H4 ⟨η4, S4, b', e4, hR4, rb, p4⟩ => ?_⟩
        subst rb
        have e24 := e3.trans e4
        obtain ⟨hD4, hDo4⟩ := e24.2.1 D _ hDu hDo rfl
        cases b with
        | false =>
          rw [if_neg Bool.false_ne_true] at p4 ⊢
          exact ⟨η4, S4, acc, us, e2.trans e24, hR4, hD4, hacc.mono e24.1, hDo4, by omega, p4⟩
        | true =>
          rw [if_pos rfl] at p4 ⊢
          rw [as] at p4
          refine ⟨η4, S4, σ03, hR4, hS3.mono e4.1, (Po.bindB (rel := VR) (η := η4) (H := H4) p4).imp fun v H5 ⟨η5, S5, v', e5, hR5, rv, p5⟩ => ?_⟩
          obtain ⟨hD5, hDo5⟩ := e5.2.1 D _ hD4 hDo4 rfl
          have hl := hacc.length
          have hjl := j.len
          refine ⟨us, hD5, by
            have : items.length ≤ sizeLine := hjl
            omega, η5, S5, acc ++ [v'], us ++ [v], ((e2.trans e24).trans e5).upd hD _, hR5.other hDo5 (fun o us' q => by rw [hD5] at q; cases q) _ (imm_lst hD5), upd_same, papp (hacc.mono (e24.1.trans e5.1)) (.cons rv .nil), hDo5, by simp; omega, ?_⟩
          rw [as] at p5
          have eq : (fun a S => ((R.ok (v' :: a) S).bind fun ys S2 => alloc (.lst (acc ++ ys)) S2)) = fun ys S2 => alloc (.lst (acc ++ [v'] ++ ys)) S2 := by
            funext a S
            show alloc (.lst (acc ++ v' :: a)) S = _
            rw [List.append_assoc]; rfl
          rw [← eq]
          exact p5
      · rw [if_neg hk] at p2; exact p2.elim
    · have ei : i = items.length := by omega
      subst ei
      rw [List.drop_length] at p2
      unfold compM at p2
      by_cases hk : chk S2 = true
      · rw [if_pos hk] at p2
        refine .inl ⟨j.stop η2 S2 H2 e2 hR2 hk, ?_⟩
        have hjl := j.len
        have p2 : Po X.K X.mg W σ VR η1 H1 (alloc (.lst (acc ++ [])) S2) Q := p2
        rw [List.append_nil] at p2
        exact p2 (η2 ++ [D]) H2 (.ref D) (Ext.add hR2 e2 hD) (hR2.add hDo (o := .lst acc) ⟨Nat.le_trans hal hjl, us, hDu, hacc.mono (List.prefix_append _ _)⟩ rfl) (VR.new hR2)
      · rw [if_neg hk] at p2; exact p2.elim

theorem lenDT_ok : CallM X rLenT lenDT := by
  intro W σ η S H xs us Q hR hx p
  unfold lenDT at p
  split at p
  · rename_i x
    obtain ⟨u, rfl, r⟩ := VsR.one hx
    split at p
    · rename_i kvs h
      obtain ⟨n, a, us, rfl, ea, ho, rfl, hu, kp, z⟩ := rdD_ok h hR r
      exact ⟨a, us, rfl, hu, p.now hR (show V.int _ = V.int _ by rw [kp.len])⟩
    · exact p.elim
  · exact p.elim
/-! the walk -/
def iKy (j : Nat) : St → Sto → R AI := fun σ S => match σ[j]? with
  | some (some (.ref n)) => match S[n]? with
    | some (.fD kvs) => .ok (kvs.map fun p => .key p.1, fun S => S[n]? == some (.fD kvs)) S
    | _ => .bad
  | _ => .bad
def unlk (n : Nat) (kvs : List (TK × V)) : V → Sto → R V := fun v S => if S[n]? = some (.fD kvs) then .ok v (S.set n (.dT kvs)) else .bad
def eCompK (j : Nat) (tg : Itm → St → Sto → R St) (tt : St → Sto → R Bool) (te : St → Sto → R V) (own : List Nat) : St → Sto → R V := fun σ S => match σ[j]? with
  | some (some (.ref n)) => match S[n]? with
    | some (.dT kvs) => (eComp (iKy j) tg tt te own σ (S.set n (.fD kvs))).nox.bind (unlk n kvs)
    | _ => .bad
  | _ => .bad
theorem fe_lcK {elt tg : Expr} {ifs : List Expr} {scope : Scope} {own : List (Str × Nat)} {t : Itm → St → Sto → R St} {g : TG} {is : List Nat} {tt : St → Sto → R Bool} {te : St → Sto → R V} {j : Nat} {x : Str} {vp : Pos} (hc : X.calm = true) (hN : X.N.Nodup) (hn : X.N[j]? = some x) (hvs : Vis X.env.scope x) (ok : BlkOk X.N X.env.scope scope own)
    (hg : ∀ (s : Shared) (H : Hp) (C : Addr) (cl : List (Str × Addr)) (fp : List Addr), FGI (X.blk s H scope (compEnvC scope cl C X.env) fp) W0 tg t g is) (ht : ∀ (s : Shared) (H : Hp) (C : Addr) (cl : List (Str × Addr)) (fp : List Addr), FTs (X.blk s H scope (compEnvC scope cl C X.env) fp) W0 ifs tt)
    (he : ∀ (s : Shared) (H : Hp) (C : Addr) (cl : List (Str × Addr)) (fp : List Addr), FE (X.blk s H scope (compEnvC scope cl C X.env) fp) W0 elt te) (his : ∀ i ∈ is, i ∈ own.map (·.2) := by decide) (hs : ∀ z, foldedSetIterable (.Name x vp) X.env z = pure z := by intro _; rfl) (hd : (x == ("__debug__" : Str)) = false := by decide) (hcd : (x == ("__classdict__" : Str)) = false := by decide) :
    FE X W (.ListComp elt [⟨tg, .Name x vp, ifs, 0⟩] scope pos) (eCompK j t tt te (own.map (·.2))) := by
  have sh : Shared := {}
  refine ⟨PE.wk (pe_lock (pe_lc (te := lfE X W0 te) (tt := lfT X W0 tt) hc hN (pi_keys (pe_var hn hvs hd hcd)) ok (fun s H C cl fp => (hg s H C cl fp).pg) (fun s H C cl fp => (ht s H C cl fp).run) (fun s H C cl fp => (he s H C cl fp).run) hs)) fun σ H Q h => ?_⟩
  obtain ⟨η, S, σ0, hR, hS, p⟩ := h
  unfold eCompK at p
  split at p
  · rename_i n hnj
    split at p
    · rename_i kvs hk
      obtain ⟨u, hu, ru⟩ := pget hS hnj
      have ru : ∃ w, u = some w ∧ VR η (.ref n) w := by
        cases u with
        | none => exact (ru : False).elim
        | some w => exact ⟨w, rfl, ru⟩
      obtain ⟨w, rfl, ru⟩ := ru
      obtain ⟨a, ea, rfl⟩ := ru
      obtain ⟨z, us, hH, pr⟩ := hR.ob n a _ ea hk
      refine ⟨a, .dT us, hH, trivial, fun od => ?_⟩
      have hnl : n < S.length := (List.getElem?_eq_some_iff.mp hk).1
      have hRl : Rel X.K η (S.set n (.fD kvs)) (upd H a (.frz od (.dT us))) := hR.set ea hk rfl ⟨z, us, ⟨od, upd_same⟩, pr⟩ rfl
      have hfz : ∀ η' H', Ext η (upd H a (.frz od (.dT us))) η' H' → H' a = some (.frz od (.dT us)) := fun η' H' e => e.2.2 a od _ upd_same
      have back : ∀ η' H', Ext η (upd H a (.frz od (.dT us))) η' H' → Ext η H η' (upd H' a (.dT us)) := fun η' H' e => by
        refine ⟨e.1, fun b o h nb t => ?_, fun b o u h => ?_⟩
        · have hb : b ≠ a := fun z => nb (by rw [z]; exact mem_drop1.mpr ⟨n, hR.pos hk rfl, ea⟩)
          have := e.2.1 b o (by rw [upd_ne hb]; exact h) nb t
          exact ⟨by rw [upd_ne hb]; exact this.1, this.2⟩
        · have hb : b ≠ a := fun z => by rw [z, hH] at h; cases h
          rw [upd_ne hb]
          exact e.2.2 b o u (by rw [upd_ne hb]; exact h)
      have ek : (S.set n (.fD kvs))[n]? = some (.fD kvs) := List.getElem?_set_self hnl
      have q : Po X.K X.mg W0 σ VR η (upd H a (.frz od (.dT us))) ((compM (fun S => S[n]? == some (.fD kvs)) t tt te (kvs.map fun p => .key p.1) (wipe σ0 (own.map (·.2))) (S.set n (.fD kvs))).bind fun ys S2 => alloc (.lst ys) S2) fun v H' => H' a = some (.frz od (.dT us)) ∧ Q v (upd H' a (.dT us)) := by
        have ee : eComp (iKy j) t tt te (own.map (·.2)) σ0 (S.set n (.fD kvs)) = (compM (fun S => S[n]? == some (.fD kvs)) t tt te (kvs.map fun p => .key p.1) (wipe σ0 (own.map (·.2))) (S.set n (.fD kvs))).bind fun ys S2 => alloc (.lst ys) S2 := by
          unfold eComp iKy
          rw [hnj]
          dsimp only
          rw [ek]
          rfl
        rw [← ee]
        cases hr : eComp (iKy j) t tt te (own.map (·.2)) σ0 (S.set n (.fD kvs)) with
        | bad => rw [hr] at p; exact p.elim
        | exc c S' => rw [hr] at p; exact p.elim
        | ok v S' =>
          rw [hr] at p
          have p : Po X.K X.mg W σ VR η H (unlk n kvs v S') Q := p
          intro η' H' u e1 hR' rv
          refine ⟨hfz η' H' e1, ?_⟩
          unfold unlk at p
          by_cases hkk : S'[n]? = some (.fD kvs)
          · rw [if_pos hkk] at p
            have ea' : η'[n]? = some a := pre_get e1.1 ea
            refine p η' _ u (back η' H' e1) (hR'.set ea' hkk rfl ?_ rfl) rv
            exact ⟨z, us, upd_same, Paired.mono (fun _ _ q => ⟨q.1, q.2.mono e1.1⟩) pr⟩
          · rw [if_neg hkk] at p; exact p.elim
      refine lf_lcX (J := Itkt a od us) (hg sh (fun _ => none) 0 [] []).run (hg sh (fun _ => none) 0 [] []).mono his hRl hS ?_ q _ fun R r => ?_
      · have hl : kvs.length = us.length := Paired.length pr
        refine ⟨by simpa using z, fun η' S' H' i it e1 hR' hc' hi => ?_, fun η' S' H' e1 hR' hc' => ?_⟩
        · have hi : (kvs.map fun p => Itm.key p.1)[i]? = some it := hi
          rw [List.getElem?_map] at hi
          cases hx : kvs[i]? with
          | none => rw [hx] at hi; cases hi
          | some kv =>
            rw [hx] at hi
            cases hi
            obtain ⟨w, hw, rw'⟩ := pget pr hx
            refine ⟨⟨hfz η' H' e1, by rw [← hl]; exact (List.getElem?_eq_some_iff.mp hx).1⟩, fun y H2 hy => ?_⟩
            obtain ⟨rfl, k, v, q, h1, rfl, h3⟩ := hy
            rw [hw] at h1
            cases h1
            exact ⟨rfl, q, rfl, by rw [rw'.1]; exact h3⟩
        · exact ⟨hfz η' H' e1, by rw [← hl]; simp⟩
      · exact ⟨.ref a, hu, a, od, rfl, .inr ⟨us, upd_same, r⟩⟩
    · exact p.elim
  · exact p.elim
end
end Fx
/-! Fx: zip of three lists. -/
namespace Z3
open PySem PySem.Spec PyProof.Rows
abbrev IsTri (h : Heap) (T : Addr) (a b c : Value) : Prop := h.get? T = some { cls := .type "tuple", data := .seq #[a, b, c] }
theorem typeCall_3 (a b c : Value) : checkTypeCall "zip" ⟨[a, b, c], []⟩ = pure () := by kernel_rfl
theorem newCall_3 (a b c : Value) : checkBuiltinCall "zip.__new__" ⟨[.type "zip", a, b, c], []⟩ = pure () := by kernel_rfl
theorem args_init_4 (a b c d : Value) : argsOk "object.__init__" ⟨[a, b, c, d], []⟩ := by
  unfold argsOk; rw [signature?_of (id := "object.__init__") (n := ['_', '_', 't', 'i', 'n', 'i', '_', '_']) (o := ['t', 'c', 'e', 'j', 'b', 'o']) (by kernel_rfl) F.owner_object]; kernel_rfl
structure Apart (z TI TO i1 i2 i3 l1 l2 l3 : Addr) : Prop where
  TIz : TI ≠ z
  TOz : TO ≠ z
  i1z : i1 ≠ z
  i2z : i2 ≠ z
  i3z : i3 ≠ z
  TITO : TI ≠ TO
  TIi1 : TI ≠ i1
  TIi2 : TI ≠ i2
  TIi3 : TI ≠ i3
  TOi1 : TO ≠ i1
  TOi2 : TO ≠ i2
  TOi3 : TO ≠ i3
  i12 : i1 ≠ i2
  i13 : i1 ≠ i3
  i23 : i2 ≠ i3
  l1z : l1 ≠ z
  l1TO : l1 ≠ TO
  l1i1 : l1 ≠ i1
  l1i2 : l1 ≠ i2
  l1i3 : l1 ≠ i3
  l2z : l2 ≠ z
  l2TO : l2 ≠ TO
  l2i1 : l2 ≠ i1
  l2i2 : l2 ≠ i2
  l2i3 : l2 ≠ i3
  l3z : l3 ≠ z
  l3TO : l3 ≠ TO
  l3i1 : l3 ≠ i1
  l3i2 : l3 ≠ i2
  l3i3 : l3 ≠ i3
theorem nn {a b : Nat} (h : a < b ∨ b < a) : a ≠ b := by omega
theorem apart_new (I l1 l2 l3 : Nat) (h1 : l1 < I) (h2 : l2 < I) (h3 : l3 < I) : Apart (I + 5) (I + 3) (I + 4) I (I + 1) (I + 2) l1 l2 l3 := by
  constructor <;> (refine nn ?_; omega)
section
variable {prog : Program} {w : World} {A : Around} {E : Value → Shared → Prop} {s : Shared}
theorem upd_tri {T : Addr} {a b c x : Value} {k : Nat} {Q : Unit → Shared → Prop} (hT : IsTri s.heap T a b c)
    (h : ∀ h', h'.get? T = some { cls := .type "tuple", data := .seq ((#[a, b, c] : Array Value).setIfInBounds k x) } → Heap.SameBut T s.heap h' → Q () { s with heap := h' }) :
    wpAny (model prog w) A (updateSeq T (·.setIfInBounds k x)) Q E s := by
  refine wpAny_updateSeq hT rfl (h _ ?_ (Heap.SameBut.update ..))
  rw [Heap.get?_update_self _ hT rfl]
  simp [Obj.mapSeq]
theorem next_item {z TI TO i1 i2 i3 l1 l2 l3 : Addr} {k : Nat} {xs ys zs : Array Value} {x y u a b c : Value} {Q : Value → Shared → Prop} (D : Apart z TI TO i1 i2 i3 l1 l2 l3)
    (hz : IsZip s.heap z TI TO .none) (hTI : IsTri s.heap TI (.ref i1) (.ref i2) (.ref i3)) (hTO : IsTri s.heap TO a b c)
    (h1 : s.heap.IsListIter i1 l1 k) (h2 : s.heap.IsListIter i2 l2 k) (h3 : s.heap.IsListIter i3 l3 k) (hl1 : s.heap.IsList l1 xs) (hl2 : s.heap.IsList l2 ys) (hl3 : s.heap.IsList l3 zs) (hx : xs[k]? = some x) (hy : ys[k]? = some y) (hu : zs[k]? = some u)
    (hQ : ∀ h', IsZip h' z TI TO (rawInt s.heap.objs.size) → IsTri h' TO x y u → h'.IsListIter i1 l1 (k + 1) → h'.IsListIter i2 l2 (k + 1) → h'.IsListIter i3 l3 (k + 1) → IsTri h' s.heap.objs.size x y u → h'.objs.size = s.heap.objs.size + 1 →
      (∀ c o, c ≠ z → c ≠ TO → c ≠ i1 → c ≠ i2 → c ≠ i3 → s.heap.get? c = some o → h'.get? c = some o) → Q (.ref s.heap.objs.size) { s with heap := h' }) :
    wpAny (model prog w) A (Builtin.«zip.__next__» ⟨[.ref z], []⟩) (fun fin s' => ∃ v, fin = .done (.ret v) ∧ Q v s') E s := by
  show wpAny _ _ (field (.ref z) 2 >>= _) _ _ _
  refine wpAny_bind (wpAny_field hz rfl (x := .bool false) rfl ?_)
  show wpAny _ _ (field (.ref z) 3 >>= _) _ _ _
  refine wpAny_bind (wpAny_field hz rfl (x := .ref TI) rfl ?_)
  refine wpAny_bind (wpAny_seqItems hTI rfl ?_)
  show wpAny _ _ (Builtin.SmallTypes.ownedTupleIsFree (.ref z) >>= _) _ _ _
  refine wpAny_bind ?_
  unfold Builtin.SmallTypes.ownedTupleIsFree
  refine wpAny_bind (wpAny_field hz rfl (x := .none) rfl (wpAny_pure ?_))
  simp only [if_true]
  refine wpAny_bind (wpAny_rule ?_)
  refine wpAny_bind (wpAny_field hz rfl (x := .ref TO) rfl ?_)
  refine wpAny_bind (wpAny_setField_rec hz (by simp) fun h₁ hz₁ hs₁ => ?_)
  replace hz₁ : IsZip h₁ z TI TO .ellipsis := hz₁
  refine wpAny_bind ?_
  simp only [List.zipIdx_cons, List.zipIdx_nil, List.forIn_cons, List.forIn_nil]

  refine wpAny_bind (wpAny_bind (wpAny_onRaise ?_))
  show wpAny _ _ (Builtin.SmallTypes.nextOf (.ref i1) >>= _) _ _ _
  refine wpAny_bind (wpAny_nextOf_list_item (h1.extBut hs₁.extBut D.i1z) (hl1.extBut hs₁.extBut D.l1z) hx fun h₂ h1₂ hs₂ => wpAny_pure ?_)
  have hTO₂ : IsTri h₂ TO a b c := hs₂.extBut _ _ D.TOi1 (hs₁.extBut _ _ D.TOz hTO)
  refine wpAny_bind (wpAny_seqItems hTO₂ rfl ?_)
  refine wpAny_bind (upd_tri hTO₂ fun h₃ hTO₃ hs₃ => ?_)
  replace hTO₃ : IsTri h₃ TO x b c := hTO₃
  refine wpAny_bind (wpAny_letGo (wpAny_pure ?_))

  refine wpAny_bind (wpAny_bind (wpAny_onRaise ?_))
  show wpAny _ _ (Builtin.SmallTypes.nextOf (.ref i2) >>= _) _ _ _
  refine wpAny_bind (wpAny_nextOf_list_item (((h2.extBut hs₁.extBut D.i2z).extBut hs₂.extBut D.i12.symm).extBut hs₃.extBut D.TOi2.symm)
    (((hl2.extBut hs₁.extBut D.l2z).extBut hs₂.extBut D.l2i1).extBut hs₃.extBut D.l2TO) hy fun h₄ h2₄ hs₄ => wpAny_pure ?_)
  have hTO₄ : IsTri h₄ TO x b c := hs₄.extBut _ _ D.TOi2 hTO₃
  refine wpAny_bind (wpAny_seqItems hTO₄ rfl ?_)
  refine wpAny_bind (upd_tri hTO₄ fun h₅ hTO₅ hs₅ => ?_)
  replace hTO₅ : IsTri h₅ TO x y c := hTO₅
  refine wpAny_bind (wpAny_letGo (wpAny_pure ?_))

  refine wpAny_bind (wpAny_bind (wpAny_onRaise ?_))
  show wpAny _ _ (Builtin.SmallTypes.nextOf (.ref i3) >>= _) _ _ _
  refine wpAny_bind (wpAny_nextOf_list_item (((((h3.extBut hs₁.extBut D.i3z).extBut hs₂.extBut D.i13.symm).extBut hs₃.extBut D.TOi3.symm).extBut hs₄.extBut D.i23.symm).extBut hs₅.extBut D.TOi3.symm)
    (((((hl3.extBut hs₁.extBut D.l3z).extBut hs₂.extBut D.l3i1).extBut hs₃.extBut D.l3TO).extBut hs₄.extBut D.l3i2).extBut hs₅.extBut D.l3TO) hu fun h₆ h3₆ hs₆ => wpAny_pure ?_)
  have hTO₆ : IsTri h₆ TO x y c := hs₆.extBut _ _ D.TOi3 hTO₅
  refine wpAny_bind (wpAny_seqItems hTO₆ rfl ?_)
  refine wpAny_bind (upd_tri hTO₆ fun h₇ hTO₇ hs₇ => ?_)
  replace hTO₇ : IsTri h₇ TO x y u := hTO₇
  refine wpAny_bind (wpAny_letGo (wpAny_pure (wpAny_pure ?_)))

  refine wpAny_bind (wpAny_seqItems hTO₇ rfl ?_)
  refine wpAny_bind (wpAny_newTuple ?_)
  have hsz : h₇.objs.size = s.heap.objs.size := by rw [hs₇.1, hs₆.1, hs₅.1, hs₄.1, hs₃.1, hs₂.1, hs₁.1]
  have hz₇ : IsZip h₇ z TI TO .ellipsis := hs₇.extBut _ _ D.TOz.symm (hs₆.extBut _ _ D.i3z.symm (hs₅.extBut _ _ D.TOz.symm (hs₄.extBut _ _ D.i2z.symm (hs₃.extBut _ _ D.TOz.symm (hs₂.extBut _ _ D.i1z.symm hz₁)))))
  have hk₇ : ∀ c o, c ≠ z → c ≠ TO → c ≠ i1 → c ≠ i2 → c ≠ i3 → s.heap.get? c = some o → h₇.get? c = some o := fun c o c1 c2 c3 c4 c5 e =>
    hs₇.extBut _ _ c2 (hs₆.extBut _ _ c5 (hs₅.extBut _ _ c2 (hs₄.extBut _ _ c4 (hs₃.extBut _ _ c2 (hs₂.extBut _ _ c3 (hs₁.extBut _ _ c1 e))))))
  have h1₇ : h₇.IsListIter i1 l1 (k + 1) := ((((h1₂.extBut hs₃.extBut D.TOi1.symm).extBut hs₄.extBut D.i12).extBut hs₅.extBut D.TOi1.symm).extBut hs₆.extBut D.i13).extBut hs₇.extBut D.TOi1.symm
  have h2₇ : h₇.IsListIter i2 l2 (k + 1) := ((h2₄.extBut hs₅.extBut D.TOi2.symm).extBut hs₆.extBut D.i23).extBut hs₇.extBut D.TOi2.symm
  have h3₇ : h₇.IsListIter i3 l3 (k + 1) := h3₆.extBut hs₇.extBut D.TOi3.symm
  have hzlt : z < h₇.objs.size := Heap.lt_size hz₇
  have hTOlt : TO < h₇.objs.size := Heap.lt_size hTO₇
  show wpAny _ _ (Builtin.SmallTypes.ownedTupleHandOut (.ref z) (.ref h₇.objs.size) >>= _) _ _ _
  refine wpAny_bind ?_
  unfold Builtin.SmallTypes.ownedTupleHandOut
  have hz₈ : IsZip (h₇.push { cls := .type "tuple", data := .seq #[x, y, u] }) z TI TO .ellipsis := Heap.get?_push_of_some _ hz₇
  refine wpAny_bind (wpAny_setField_rec hz₈ (by simp) fun h₉ hz₉ hs₉ => ?_)
  replace hz₉ : IsZip h₉ z TI TO (rawInt h₇.objs.size) := hz₉
  refine wpAny_setField_rec hz₉ (by simp) fun h₀ hz₀ hs₀ => ?_
  replace hz₀ : IsZip h₀ z TI TO (rawInt h₇.objs.size) := hz₀
  have up : ∀ c o, c ≠ z → h₇.get? c = some o → h₀.get? c = some o := fun c o c1 e => hs₀.extBut _ _ c1 (hs₉.extBut _ _ c1 (Heap.get?_push_of_some _ e))
  have hT₀ : IsTri h₀ h₇.objs.size x y u := hs₀.extBut _ _ (Nat.ne_of_gt hzlt) (hs₉.extBut _ _ (Nat.ne_of_gt hzlt) (Heap.get?_push_size _ rfl))
  have hz0 : h₀.objs.size = h₇.objs.size + 1 := by rw [hs₀.1, hs₉.1, Heap.size_push]
  rw [hsz] at hz₀ hT₀ hz0
  refine wpAny_pure ⟨_, rfl, ?_⟩
  show Q (.ref h₇.objs.size) _
  rw [hsz]
  exact hQ h₀ hz₀ (up _ _ D.TOz hTO₇) (h1₇.at fun o e => up _ o D.i1z e) (h2₇.at fun o e => up _ o D.i2z e) (h3₇.at fun o e => up _ o D.i3z e) hT₀ hz0 fun c o c1 c2 c3 c4 c5 e => up c o c1 (hk₇ c o c1 c2 c3 c4 c5 e)
theorem next_end {z TI TO i1 i2 i3 l1 l2 l3 : Addr} {k : Nat} {xs ys zs : Array Value} {a b c : Value} {Q : Fin → Shared → Prop} (hh : A.handled = none) (D : Apart z TI TO i1 i2 i3 l1 l2 l3)
    (hz : IsZip s.heap z TI TO .none) (hTI : IsTri s.heap TI (.ref i1) (.ref i2) (.ref i3)) (hTO : IsTri s.heap TO a b c)
    (h1 : s.heap.IsListIter i1 l1 k) (h2 : s.heap.IsListIter i2 l2 k) (h3 : s.heap.IsListIter i3 l3 k) (hl1 : s.heap.IsList l1 xs) (hl2 : s.heap.IsList l2 ys) (hl3 : s.heap.IsList l3 zs) (hend : xs[k]? = none ∨ ys[k]? = none ∨ zs[k]? = none)
    (hE : ∀ h' e, (∀ c o, c ≠ z → c ≠ TO → c ≠ i1 → c ≠ i2 → c ≠ i3 → s.heap.get? c = some o → h'.get? c = some o) → (∃ o, h'.get? e = some o ∧ o.cls = .type "StopIteration") → E (.ref e) { s with heap := h' }) :
    wpAny (model prog w) A (Builtin.«zip.__next__» ⟨[.ref z], []⟩) Q E s := by
  show wpAny _ _ (field (.ref z) 2 >>= _) _ _ _
  refine wpAny_bind (wpAny_field hz rfl (x := .bool false) rfl ?_)
  show wpAny _ _ (field (.ref z) 3 >>= _) _ _ _
  refine wpAny_bind (wpAny_field hz rfl (x := .ref TI) rfl ?_)
  refine wpAny_bind (wpAny_seqItems hTI rfl ?_)
  show wpAny _ _ (Builtin.SmallTypes.ownedTupleIsFree (.ref z) >>= _) _ _ _
  refine wpAny_bind ?_
  unfold Builtin.SmallTypes.ownedTupleIsFree
  refine wpAny_bind (wpAny_field hz rfl (x := .none) rfl (wpAny_pure ?_))
  simp only [if_true]
  refine wpAny_bind (wpAny_rule ?_)
  refine wpAny_bind (wpAny_field hz rfl (x := .ref TO) rfl ?_)
  refine wpAny_bind (wpAny_setField_rec hz (by simp) fun h₁ hz₁ hs₁ => ?_)
  replace hz₁ : IsZip h₁ z TI TO .ellipsis := hz₁
  refine wpAny_bind ?_
  simp only [List.zipIdx_cons, List.zipIdx_nil, List.forIn_cons, List.forIn_nil]
  refine wpAny_bind (wpAny_bind (wpAny_onRaise ?_))
  show wpAny _ _ (Builtin.SmallTypes.nextOf (.ref i1) >>= _) _ _ _
  cases hx : xs[k]? with
  | none =>
    refine wpAny_bind (wpAny_nextOf_list_end hh (h1.extBut hs₁.extBut D.i1z) (hl1.extBut hs₁.extBut D.l1z) hx fun h₂ e hs₂ he => ?_)
    obtain ⟨oe, hoe, hce⟩ := he
    have hz₂ : IsZip h₂ z TI TO .ellipsis := hs₂ _ _ D.i1z.symm hz₁
    have hez : e ≠ z := fun x => by subst x; rw [hz₂] at hoe; cases hoe; simp at hce
    refine wpAny_setField_rec hz₂ (by simp) fun h₃ _ hs₃ => hE h₃ e (fun c o c1 _ c3 _ _ x => hs₃.extBut _ _ c1 (hs₂ _ _ c3 (hs₁.extBut _ _ c1 x))) ⟨oe, hs₃.extBut _ _ hez hoe, hce⟩
  | some x =>
    refine wpAny_bind (wpAny_nextOf_list_item (h1.extBut hs₁.extBut D.i1z) (hl1.extBut hs₁.extBut D.l1z) hx fun h₂ h1₂ hs₂ => wpAny_pure ?_)
    have hTO₂ : IsTri h₂ TO a b c := hs₂.extBut _ _ D.TOi1 (hs₁.extBut _ _ D.TOz hTO)
    refine wpAny_bind (wpAny_seqItems hTO₂ rfl ?_)
    refine wpAny_bind (upd_tri hTO₂ fun h₃ hTO₃ hs₃ => ?_)
    replace hTO₃ : IsTri h₃ TO x b c := hTO₃
    refine wpAny_bind (wpAny_letGo (wpAny_pure ?_))
    refine wpAny_bind (wpAny_bind (wpAny_onRaise ?_))
    show wpAny _ _ (Builtin.SmallTypes.nextOf (.ref i2) >>= _) _ _ _
    cases hy : ys[k]? with
    | none =>
      refine wpAny_bind (wpAny_nextOf_list_end hh (((h2.extBut hs₁.extBut D.i2z).extBut hs₂.extBut D.i12.symm).extBut hs₃.extBut D.TOi2.symm)
        (((hl2.extBut hs₁.extBut D.l2z).extBut hs₂.extBut D.l2i1).extBut hs₃.extBut D.l2TO) hy fun h₄ e hs₄ he => ?_)
      obtain ⟨oe, hoe, hce⟩ := he
      have hz₄ : IsZip h₄ z TI TO .ellipsis := hs₄ _ _ D.i2z.symm (hs₃.extBut _ _ D.TOz.symm (hs₂.extBut _ _ D.i1z.symm hz₁))
      have hez : e ≠ z := fun x => by subst x; rw [hz₄] at hoe; cases hoe; simp at hce
      refine wpAny_setField_rec hz₄ (by simp) fun h₅ _ hs₅ => hE h₅ e (fun c o c1 c2 c3 c4 _ x => hs₅.extBut _ _ c1 (hs₄ _ _ c4 (hs₃.extBut _ _ c2 (hs₂.extBut _ _ c3 (hs₁.extBut _ _ c1 x))))) ⟨oe, hs₅.extBut _ _ hez hoe, hce⟩
    | some y =>
      have hu : zs[k]? = none := by
        rcases hend with h | h | h
        · rw [hx] at h; cases h
        · rw [hy] at h; cases h
        · exact h
      refine wpAny_bind (wpAny_nextOf_list_item (((h2.extBut hs₁.extBut D.i2z).extBut hs₂.extBut D.i12.symm).extBut hs₃.extBut D.TOi2.symm)
        (((hl2.extBut hs₁.extBut D.l2z).extBut hs₂.extBut D.l2i1).extBut hs₃.extBut D.l2TO) hy fun h₄ h2₄ hs₄ => wpAny_pure ?_)
      have hTO₄ : IsTri h₄ TO x b c := hs₄.extBut _ _ D.TOi2 hTO₃
      refine wpAny_bind (wpAny_seqItems hTO₄ rfl ?_)
      refine wpAny_bind (upd_tri hTO₄ fun h₅ hTO₅ hs₅ => ?_)
      refine wpAny_bind (wpAny_letGo (wpAny_pure ?_))
      refine wpAny_bind (wpAny_bind (wpAny_onRaise ?_))
      show wpAny _ _ (Builtin.SmallTypes.nextOf (.ref i3) >>= _) _ _ _
      refine wpAny_bind (wpAny_nextOf_list_end hh (((((h3.extBut hs₁.extBut D.i3z).extBut hs₂.extBut D.i13.symm).extBut hs₃.extBut D.TOi3.symm).extBut hs₄.extBut D.i23.symm).extBut hs₅.extBut D.TOi3.symm)
        (((((hl3.extBut hs₁.extBut D.l3z).extBut hs₂.extBut D.l3i1).extBut hs₃.extBut D.l3TO).extBut hs₄.extBut D.l3i2).extBut hs₅.extBut D.l3TO) hu fun h₆ e hs₆ he => ?_)
      obtain ⟨oe, hoe, hce⟩ := he
      have hz₆ : IsZip h₆ z TI TO .ellipsis := hs₆ _ _ D.i3z.symm (hs₅.extBut _ _ D.TOz.symm (hs₄.extBut _ _ D.i2z.symm (hs₃.extBut _ _ D.TOz.symm (hs₂.extBut _ _ D.i1z.symm hz₁))))
      have hez : e ≠ z := fun x => by subst x; rw [hz₆] at hoe; cases hoe; simp at hce
      refine wpAny_setField_rec hz₆ (by simp) fun h₇ _ hs₇ => hE h₇ e (fun c o c1 c2 c3 c4 c5 x => hs₇.extBut _ _ c1 (hs₆ _ _ c5 (hs₅.extBut _ _ c2 (hs₄.extBut _ _ c4 (hs₃.extBut _ _ c2 (hs₂.extBut _ _ c3 (hs₁.extBut _ _ c1 x))))))) ⟨oe, hs₇.extBut _ _ hez hoe, hce⟩
theorem pyNext_item {z TI TO i1 i2 i3 l1 l2 l3 : Addr} {k : Nat} {xs ys zs : Array Value} {x y u a b c : Value} {Q : Option Value → Shared → Prop} (D : Apart z TI TO i1 i2 i3 l1 l2 l3)
    (hz : IsZip s.heap z TI TO .none) (hTI : IsTri s.heap TI (.ref i1) (.ref i2) (.ref i3)) (hTO : IsTri s.heap TO a b c)
    (h1 : s.heap.IsListIter i1 l1 k) (h2 : s.heap.IsListIter i2 l2 k) (h3 : s.heap.IsListIter i3 l3 k) (hl1 : s.heap.IsList l1 xs) (hl2 : s.heap.IsList l2 ys) (hl3 : s.heap.IsList l3 zs) (hx : xs[k]? = some x) (hy : ys[k]? = some y) (hu : zs[k]? = some u)
    (hQ : ∀ h', IsZip h' z TI TO (rawInt s.heap.objs.size) → IsTri h' TO x y u → h'.IsListIter i1 l1 (k + 1) → h'.IsListIter i2 l2 (k + 1) → h'.IsListIter i3 l3 (k + 1) → IsTri h' s.heap.objs.size x y u → h'.objs.size = s.heap.objs.size + 1 →
      (∀ c o, c ≠ z → c ≠ TO → c ≠ i1 → c ≠ i2 → c ≠ i3 → s.heap.get? c = some o → h'.get? c = some o) → Q (some (.ref s.heap.objs.size)) { s with heap := h' }) :
    wpAny (model prog w) A (pyNext (.ref z)) Q E s := by
  have hT : s.TypeIs (.ref z) "zip" := ⟨_, hz, rfl⟩
  unfold pyNext
  exact wpAny_bind (wpAny_attempt (wpAny_callSpecial?_slot (name := Str.ofString "__next__") hT F.slot_zip_next
    (wpAny_call_entry F.slot_zip_next hT F.entry_zip_next
      (next_item D hz hTI hTO h1 h2 h3 hl1 hl2 hl3 hx hy hu fun h' a1 a2 a3 a4 a5 a6 a7 a8 => wpAny_pure (hQ h' a1 a2 a3 a4 a5 a6 a7 a8)) (F.args_zip_next_1 _))))
theorem pyNext_end {z TI TO i1 i2 i3 l1 l2 l3 : Addr} {k : Nat} {xs ys zs : Array Value} {a b c : Value} {Q : Option Value → Shared → Prop} (hh : A.handled = none) (D : Apart z TI TO i1 i2 i3 l1 l2 l3)
    (hz : IsZip s.heap z TI TO .none) (hTI : IsTri s.heap TI (.ref i1) (.ref i2) (.ref i3)) (hTO : IsTri s.heap TO a b c)
    (h1 : s.heap.IsListIter i1 l1 k) (h2 : s.heap.IsListIter i2 l2 k) (h3 : s.heap.IsListIter i3 l3 k) (hl1 : s.heap.IsList l1 xs) (hl2 : s.heap.IsList l2 ys) (hl3 : s.heap.IsList l3 zs) (hend : xs[k]? = none ∨ ys[k]? = none ∨ zs[k]? = none)
    (hQ : ∀ h', (∀ c o, c ≠ z → c ≠ TO → c ≠ i1 → c ≠ i2 → c ≠ i3 → s.heap.get? c = some o → h'.get? c = some o) → Q none { s with heap := h' }) : wpAny (model prog w) A (pyNext (.ref z)) Q E s := by
  have hT : s.TypeIs (.ref z) "zip" := ⟨_, hz, rfl⟩
  unfold pyNext
  refine wpAny_bind (wpAny_attempt (wpAny_callSpecial?_slot (name := Str.ofString "__next__") hT F.slot_zip_next
    (wpAny_call_entry F.slot_zip_next hT F.entry_zip_next (next_end hh D hz hTI hTO h1 h2 h3 hl1 hl2 hl3 hend fun h' e hk he => ?_) (F.args_zip_next_1 _))))
  obtain ⟨o, ho, hc⟩ := he
  refine wpAny_bind (wpAny_isInstance (T := "StopIteration") (b := true) ⟨o, ho, hc⟩ isSubtype_stop ?_)
  exact wpAny_pure (hQ _ hk)
end
abbrev H1 (h : Heap) (l : Addr) : Heap := h.push { cls := .type "list_iterator", data := .fields #[.ref l, .int 0 0] }
abbrev H3 (h : Heap) (l1 l2 l3 : Addr) : Heap := H1 (H1 (H1 h l1) l2) l3
abbrev H4 (h : Heap) (l1 l2 l3 : Addr) : Heap := (H3 h l1 l2 l3).push { cls := .type "tuple", data := .seq #[.ref h.objs.size, .ref (H1 h l1).objs.size, .ref (H1 (H1 h l1) l2).objs.size] }
abbrev H5 (h : Heap) (l1 l2 l3 : Addr) : Heap := (H4 h l1 l2 l3).push { cls := .type "tuple", data := .seq #[.none, .none, .none] }
abbrev H6 (h : Heap) (l1 l2 l3 : Addr) : Heap := (H5 h l1 l2 l3).push { cls := .type "zip", data := .fields #[.none, .bool false, .bool false, .ref (H3 h l1 l2 l3).objs.size, .ref (H4 h l1 l2 l3).objs.size] }
theorem meets_new (l1 l2 l3 : Addr) (xs ys zs : Array Value) :
    Meets (Builtin.«zip.__new__» ⟨[.type "zip", .ref l1, .ref l2, .ref l3], []⟩) (fun _ R s => s.heap.IsList l1 xs ∧ s.heap.IsList l2 ys ∧ s.heap.IsList l3 zs ∧
      R (.ok (.ret (.ref (H5 s.heap l1 l2 l3).objs.size))) { s with heap := H6 s.heap l1 l2 l3 }) :=
  .of_wp fun prog w A R s h => by
    obtain ⟨hp, g, d, tk, os⟩ := s; obtain ⟨hl1, hl2, hl3, h⟩ := h
    have hsub := sub_zip
    have hL1 : Heap.IsList (Shared.heap ⟨hp, g, d, tk, os⟩) l1 xs := hl1
    have hL2 : Heap.IsList (Shared.heap ⟨hp.push { cls := .type "list_iterator", data := .fields #[.ref l1, .int 0 0] }, g, d, tk, os⟩) l2 ys := Heap.IsList.push hl2 _
    have hL3 : Heap.IsList (Shared.heap ⟨(hp.push { cls := .type "list_iterator", data := .fields #[.ref l1, .int 0 0] }).push { cls := .type "list_iterator", data := .fields #[.ref l2, .int 0 0] }, g, d, tk, os⟩) l3 zs := Heap.IsList.push (Heap.IsList.push hl3 _) _
    wp_walk using wpAny_pyIter_list hL1, wpAny_pyIter_list hL2, wpAny_pyIter_list hL3
    exact ⟨_, rfl, h⟩
theorem call_zip {prog : Program} {w : World} {A : Around} {E : Value → Shared → Prop} {s : Shared} {l1 l2 l3 : Addr} {xs ys zs : Array Value} {Q : Value → Shared → Prop} (hl1 : s.heap.IsList l1 xs) (hl2 : s.heap.IsList l2 ys) (hl3 : s.heap.IsList l3 zs)
    (h : ∀ h', IsZip h' (s.heap.objs.size + 5) (s.heap.objs.size + 3) (s.heap.objs.size + 4) .none → IsTri h' (s.heap.objs.size + 3) (.ref s.heap.objs.size) (.ref (s.heap.objs.size + 1)) (.ref (s.heap.objs.size + 2)) →
      IsTri h' (s.heap.objs.size + 4) .none .none .none → h'.IsListIter s.heap.objs.size l1 0 → h'.IsListIter (s.heap.objs.size + 1) l2 0 → h'.IsListIter (s.heap.objs.size + 2) l3 0 →
      (∀ c o, s.heap.get? c = some o → h'.get? c = some o) → Q (.ref (s.heap.objs.size + 5)) { s with heap := h' }) :
    wpAny (model prog w) A (call (.type "zip") [.ref l1, .ref l2, .ref l3]) Q E s := by
  refine callType_new F.called_zip (by decide) (typeCall_3 _ _ _) (newCall_3 _ _ _) (fun obj => args_init_4 obj _ _ _) F.entry_zip_new
    (meets_new l1 l2 l3 xs ys zs) ⟨hl1, hl2, hl3, ?_⟩
  have z1 : (H1 s.heap l1).objs.size = s.heap.objs.size + 1 := Heap.size_push ..
  have z2 : (H1 (H1 s.heap l1) l2).objs.size = s.heap.objs.size + 2 := by rw [Heap.size_push, z1]
  have z3 : (H3 s.heap l1 l2 l3).objs.size = s.heap.objs.size + 3 := by rw [Heap.size_push, z2]
  have z4 : (H4 s.heap l1 l2 l3).objs.size = s.heap.objs.size + 4 := by rw [Heap.size_push, z3]
  have z5 : (H5 s.heap l1 l2 l3).objs.size = s.heap.objs.size + 5 := by rw [Heap.size_push, z4]
  have g6 : (H6 s.heap l1 l2 l3).get? (H5 s.heap l1 l2 l3).objs.size = some _ := Heap.get?_push_size _ rfl
  have g5 : (H6 s.heap l1 l2 l3).get? (H4 s.heap l1 l2 l3).objs.size = some _ := Heap.get?_push_of_some _ (Heap.get?_push_size _ rfl)
  have g4 : (H6 s.heap l1 l2 l3).get? (H3 s.heap l1 l2 l3).objs.size = some _ := Heap.get?_push_of_some _ (Heap.get?_push_of_some _ (Heap.get?_push_size _ rfl))
  have g3 : (H6 s.heap l1 l2 l3).get? (H1 (H1 s.heap l1) l2).objs.size = some _ := Heap.get?_push_of_some _ (Heap.get?_push_of_some _ (Heap.get?_push_of_some _ (Heap.get?_push_size _ rfl)))
  have g2 : (H6 s.heap l1 l2 l3).get? (H1 s.heap l1).objs.size = some _ := Heap.get?_push_of_some _ (Heap.get?_push_of_some _ (Heap.get?_push_of_some _ (Heap.get?_push_of_some _ (Heap.get?_push_size _ rfl))))
  have g1 : (H6 s.heap l1 l2 l3).get? s.heap.objs.size = some _ := Heap.get?_push_of_some _ (Heap.get?_push_of_some _ (Heap.get?_push_of_some _ (Heap.get?_push_of_some _ (Heap.get?_push_of_some _ (Heap.get?_push_size _ rfl)))))
  show _ ∧ _
  rw [z3, z4, z5] at g6
  rw [z1, z2, z3] at g4
  rw [z4] at g5
  rw [z1] at g2
  rw [z2] at g3
  rw [z5]
  exact ⟨⟨_, g6, rfl⟩, h _ g6 g4 g5 ⟨_, g1, rfl, rfl⟩ ⟨_, g2, rfl, rfl⟩ ⟨_, g3, rfl, rfl⟩ fun c o x =>
    Heap.get?_push_of_some _ (Heap.get?_push_of_some _ (Heap.get?_push_of_some _ (Heap.get?_push_of_some _ (Heap.get?_push_of_some _ (Heap.get?_push_of_some _ x)))))⟩
end Z3
namespace Fx
open PySem PySem.Spec L2
open PyProof.Rows hiding St
/-- the lists at a, b, c as they stand at each turn, the items in new tuples -/
def It3 (K : PySem.W.Frag) (a b c : Addr) : It :=
  ⟨fun i H => ∃ (xs ys zs : List V) (x y z : V), SqL K H a xs ∧ SqL K H b ys ∧ SqL K H c zs ∧ xs[i]? = some x ∧ ys[i]? = some y ∧ zs[i]? = some z,
    fun i H v H' => ∃ T x y z, v = .ref T ∧ H T = none ∧ H' = upd H T (.tup [x, y, z]) ∧ (∀ xs, SqL K H a xs → xs[i]? = some x) ∧ (∀ ys, SqL K H b ys → ys[i]? = some y) ∧ ∀ zs, SqL K H c zs → zs[i]? = some z,
    fun i H => ∃ xs ys zs : List V, SqL K H a xs ∧ SqL K H b ys ∧ SqL K H c zs ∧ (xs.length ≤ i ∨ ys.length ≤ i ∨ zs.length ≤ i)⟩
theorem turn3 {P : Program} {w : World} {K : PySem.W.Frag} {elts : List Expr} {kk : Nat} {tpos : Pos} {a b c z TI TO i1 i2 i3 : Addr} (D : Z3.Apart z TI TO i1 i2 i3 a b c) :
    Turn P w K (.Tuple elts kk tpos) (It3 K a b c) [z, TI, TO, i1, i2, i3] z (fun i h => IsZip h z TI TO .none ∧ Z3.IsTri h TI (.ref i1) (.ref i2) (.ref i3) ∧ (∃ x y u, Z3.IsTri h TO x y u) ∧ h.IsListIter i1 a i ∧ h.IsListIter i2 b i ∧ h.IsListIter i3 c i) where
  mem := by simp
  obj := fun i h st d hd => by
    obtain ⟨hz, hTI, ⟨x, y, u, hTO⟩, ⟨o1, e1, _, d1⟩, ⟨o2, e2, _, d2⟩, ⟨o3, e3, _, d3⟩⟩ := st
    have e' : d = z ∨ d = TI ∨ d = TO ∨ d = i1 ∨ d = i2 ∨ d = i3 := by simpa using hd
    rcases e' with q | q | q | q | q | q
    · rw [q]; exact ⟨_, hz, fun v q => nomatch q⟩
    · rw [q]; exact ⟨_, hTI, fun v q => nomatch q⟩
    · rw [q]; exact ⟨_, hTO, fun v q => nomatch q⟩
    · rw [q]; exact ⟨o1, e1, fun v q => by rw [d1] at q; cases q⟩
    · rw [q]; exact ⟨o2, e2, fun v q => by rw [d2] at q; cases q⟩
    · rw [q]; exact ⟨o3, e3, fun v q => by rw [d3] at q; cases q⟩
  keep := fun i h h' st k => by
    obtain ⟨hz, hTI, ⟨x, y, u, hTO⟩, h1, h2, h3⟩ := st
    exact ⟨k z (by simp) _ hz, k TI (by simp) _ hTI, ⟨x, y, u, k TO (by simp) _ hTO⟩, h1.at fun o q => k i1 (by simp) o q, h2.at fun o q => k i2 (by simp) o q, h3.at fun o q => k i3 (by simp) o q⟩
  item := by
    intro X hP hw hK hc i pins s σ H E I hf st hg
    subst hP hw hK
    obtain ⟨hz, hTI, ⟨x0, y0, u0, hTO⟩, h1, h2, h3⟩ := st
    obtain ⟨xs, ys, zs, x, y, t, hqx, hqy, hqz, hx, hy, ht⟩ := hg
    obtain ⟨its, rv, p, _⟩ := I.list hqx
    obtain ⟨its2, rv2, p2, _⟩ := I.list hqy
    obtain ⟨its3, rv3, p3, _⟩ := I.list hqz
    obtain ⟨u, hu, ru⟩ := rv.get hx
    obtain ⟨u2, hu2, ru2⟩ := rv2.get hy
    obtain ⟨u3, hu3, ru3⟩ := rv3.get ht
    have hzl : z < s.heap.objs.size := Heap.lt_size hz
    refine Z3.pyNext_item D hz hTI hTO h1 h2 h3 p.isList p2.isList p3.isList (x := u) (y := u2) (u := u3) (by simpa using hu) (by simpa using hu2) (by simpa using hu3) fun h' z' TO' h1' h2' h3' hT hsz hk => ?_
    refine ⟨_, rfl, wpAny_letOwnedTupleGo_zip (s := { s with heap := h' }) z' fun h'' z'' sb => ?_⟩
    have hT2 : h''.get? s.heap.objs.size = some { cls := .type "tuple", data := .seq #[u, u2, u3] } := (sb.2 _ (Nat.ne_of_gt hzl)).trans hT
    have new : ObjOk X.prog X.w (upd H s.heap.objs.size (.tup [x, y, t])) h'' s.heap.objs.size (.tup [x, y, t]) :=
      ⟨by show 3 ≤ sizeLine; decide, [u, u2, u3], .cons ru (.cons ru2 (.cons ru3 .nil)), ⟨_, hT2, rfl, _, rfl⟩⟩
    have I1 : Inv X pins σ (upd H s.heap.objs.size (.tup [x, y, t])) { s with heap := h'' } :=
      I.turnedNew (t' := s.toks) (ch := [z, TI, TO, i1, i2, i3]) (fun c o hb q => (sb.2 c (fun q' => hb (by simp [q']))).trans (hk c o (fun q' => hb (by simp [q'])) (fun q' => hb (by simp [q'])) (fun q' => hb (by simp [q'])) (fun q' => hb (by simp [q'])) (fun q' => hb (by simp [q'])) q)) hf (Nat.le_refl _) new
    refine ⟨.ref s.heap.objs.size, _, I1, rfl, ⟨_, x, y, t, rfl, I.hok.fresh (Nat.le_refl _), rfl, fun l hl => by rw [I.list_inj hl hqx]; exact hx, fun l hl => by rw [I.list_inj hl hqy]; exact hy, fun l hl => by rw [I.list_inj hl hqz]; exact ht⟩, ⟨z'', ?_, ⟨u, u2, u3, ?_⟩, ?_, ?_, ?_⟩, fun c hcm => ?_⟩
    · exact (sb.2 _ D.TIz).trans (hk _ _ D.TIz D.TITO D.TIi1 D.TIi2 D.TIi3 hTI)
    · exact (sb.2 _ D.TOz).trans TO'
    · exact h1'.at fun o q => (sb.2 _ D.i1z).trans q
    · exact h2'.at fun o q => (sb.2 _ D.i2z).trans q
    · exact h3'.at fun o q => (sb.2 _ D.i3z).trans q
    · have hlt : c < s.heap.objs.size := by
        have e' : c = z ∨ c = TI ∨ c = TO ∨ c = i1 ∨ c = i2 ∨ c = i3 := by simpa using hcm
        rcases e' with q | q | q | q | q | q
        · rw [q]; exact hzl
        · rw [q]; exact Heap.lt_size hTI
        · rw [q]; exact Heap.lt_size hTO
        · rw [q]; obtain ⟨_, e1, _⟩ := h1; exact Heap.lt_size e1
        · rw [q]; obtain ⟨_, e2, _⟩ := h2; exact Heap.lt_size e2
        · rw [q]; obtain ⟨_, e3, _⟩ := h3; exact Heap.lt_size e3
      rw [upd_ne (Nat.ne_of_lt hlt)]
      exact (hf c hcm).1
  done := by
    intro X hP hw hK hc i pins s σ H E I hf st hg
    subst hP hw hK
    obtain ⟨hz, hTI, ⟨x0, y0, u0, hTO⟩, h1, h2, h3⟩ := st
    obtain ⟨xs, ys, zs, hqx, hqy, hqz, hend⟩ := hg
    obtain ⟨its, rv, p, _⟩ := I.list hqx
    obtain ⟨its2, rv2, p2, _⟩ := I.list hqy
    obtain ⟨its3, rv3, p3, _⟩ := I.list hqz
    have l1 := rv.length
    have l2 := rv2.length
    have l3 := rv3.length
    have he : its.toArray[i]? = none ∨ its2.toArray[i]? = none ∨ its3.toArray[i]? = none := by
      rcases hend with q | q | q
      · exact .inl (by simp; omega)
      · exact .inr (.inl (by simp; omega))
      · exact .inr (.inr (by simp; omega))
    exact Z3.pyNext_end (I.ok.hd hc) D hz hTI hTO h1 h2 h3 p.isList p2.isList p3.isList he fun h' hk => ⟨rfl, I.turnedL (t' := s.toks) (ch := [z, TI, TO, i1, i2, i3]) (fun c o hb q =>
      hk c o (fun q' => hb (by simp [q'])) (fun q' => hb (by simp [q'])) (fun q' => hb (by simp [q'])) (fun q' => hb (by simp [q'])) (fun q' => hb (by simp [q'])) q) hf⟩
  self := fun A i s Q E st h => wpAny_pyIter_zip st.1 h
def iZip3 (K : PySem.W.Frag) (ta : TA) : TI := fun σ H R => ta σ H fun vs H1 => ∃ a b c xs ys zs, vs = [.ref a, .ref b, .ref c] ∧ SqL K H1 a xs ∧ SqL K H1 b ys ∧ SqL K H1 c zs ∧ R (It3 K a b c) H1
theorem pi_zip3 {X : Cx} {e e2 e3 : Expr} {ta : TA} {p pos tpos : Pos} {elts : List Expr} {kk : Nat} (hg : Gl X "zip") (hm : X.mg "zip" = none) (ha : PA X [e, e2, e3] ta)
    (hs : starEach [e, e2, e3] X.env = (false, eval e X.env) :: starEach [e2, e3] X.env := by rfl) (hpl : (backTo pos (starEach [e2, e3] X.env)).any (·.1) = false := by rfl) :
    PI X (.Tuple elts kk tpos) (.Call (.Name "zip" p) [e, e2, e3] [] pos) (iZip3 X.K ta) := by
  refine ⟨fun pins s σ H R I h => ?_⟩
  refine Call_ (ld_blt I hg hm PyProof.Rows.boot_zip (PyProof.Rows.callWith_type1 (thn (ha.run pos pins s σ H _ I h) fun us s1 ⟨vs, H1, I1, r1, q1⟩ => ?_) hs hpl))
  obtain ⟨a, b, c, xs, ys, zs, ex, hqx, hqy, hqz, q⟩ := q1
  subst ex
  cases r1 with
  | cons r rr =>
    cases rr with
    | cons r' rr =>
      cases rr with
      | cons r'' rr =>
        cases rr
        cases r
        cases r'
        cases r''
        obtain ⟨its, rv, p1, _⟩ := I1.list hqx
        obtain ⟨its2, rv2, p2, _⟩ := I1.list hqy
        obtain ⟨its3, rv3, p3, _⟩ := I1.list hqz
        refine Z3.call_zip p1.isList p2.isList p3.isList fun h' hz hTI hTO h1 h2 h3 hk => wpAny_pyIter_zip hz ?_
        have I2 : Inv X pins σ H1 { s1 with heap := h' } := I1.kept (t' := s1.toks) hk
        refine ⟨s1.heap.objs.size + 5, [s1.heap.objs.size + 5, s1.heap.objs.size + 3, s1.heap.objs.size + 4, s1.heap.objs.size, s1.heap.objs.size + 1, s1.heap.objs.size + 2], _, _, H1, rfl, I2, turn3 (Z3.apart_new s1.heap.objs.size a b c p1.lt p2.lt p3.lt), ⟨hz, hTI, ⟨_, _, _, hTO⟩, h1, h2, h3⟩, fun d hdm => ?_, q⟩
        have e' : d = s1.heap.objs.size + 5 ∨ d = s1.heap.objs.size + 3 ∨ d = s1.heap.objs.size + 4 ∨ d = s1.heap.objs.size ∨ d = s1.heap.objs.size + 1 ∨ d = s1.heap.objs.size + 2 := by simpa using hdm
        have hle : s1.heap.objs.size ≤ d := by
          rcases e' with z | z | z | z | z | z
          · rw [z]; exact Nat.le_add_right _ _
          · rw [z]; exact Nat.le_add_right _ _
          · rw [z]; exact Nat.le_add_right _ _
          · rw [z]; exact Nat.le_refl _
          · rw [z]; exact Nat.le_add_right _ _
          · rw [z]; exact Nat.le_add_right _ _
        exact I1.fpOk hle (I1.hok.fresh hle)
/-! the reading -/
variable {K : PySem.W.Frag} {η : List Addr} {S : Sto} {H : Hp} {X : Cx} {W : WX} {e : Expr}
def zipI3 (xs ys zs : List V) : List Itm := (xs.zip (ys.zip zs)).map fun p => .many [p.1, p.2.1, p.2.2]
def chkZ3 (v w u : V) (xs ys zs : List V) : Sto → Bool := fun S => (rdL v S == some xs) && (rdL w S == some ys) && (rdL u S == some zs)
def iZ3 (m : St → Sto → R (List V)) : St → Sto → R AI := fun σ S => (m σ S).bind fun vs S1 => match vs with
  | [v, w, u] => match rdL v S1, rdL w S1, rdL u S1 with
    | some xs, some ys, some zs => .ok (zipI3 xs ys zs, chkZ3 v w u xs ys zs) S1
    | _, _, _ => .bad
  | _ => .bad
theorem JR.zip3 {v w y u z z3 : V} {xs ys zs : List V} (h : rdL v S = some xs) (h2 : rdL w S = some ys) (h3 : rdL y S = some zs) (r : Rel K η S H) (q : VR η v u) (q2 : VR η w z) (q3 : VR η y z3) : ∃ a b c us vs ws, u = .ref a ∧ z = .ref b ∧ z3 = .ref c ∧ SqL K H a us ∧ SqL K H b vs ∧ SqL K H c ws ∧
    JR K η (zipI3 xs ys zs, chkZ3 v w y xs ys zs) (It3 K a b c) := by
  obtain ⟨a, us, rfl, hq, r2, z1⟩ := rdL_ok h r q
  obtain ⟨b, vs, rfl, hq2, r3, z2⟩ := rdL_ok h2 r q2
  obtain ⟨c, ws, rfl, hq3, r4, z4⟩ := rdL_ok h3 r q3
  have sp : ∀ {S'}, chkZ3 v w y xs ys zs S' = true → rdL v S' = some xs ∧ rdL w S' = some ys ∧ rdL y S' = some zs := fun {S'} hc => by
    unfold chkZ3 at hc
    rw [Bool.and_eq_true, Bool.and_eq_true] at hc
    exact ⟨by simpa using hc.1.1, by simpa using hc.1.2, by simpa using hc.2⟩
  refine ⟨a, b, c, us, vs, ws, rfl, rfl, rfl, hq, hq2, hq3, ?_, fun η' S' H' i it he hR hc hi => ?_, fun η' S' H' he hR hc => ?_⟩
  · show (zipI3 xs ys zs).length ≤ sizeLine
    unfold zipI3
    rw [List.length_map, List.length_zip]
    omega
  · obtain ⟨c1, c2, c3⟩ := sp hc
    obtain ⟨a', us', e', hq', r', z'⟩ := rdL_ok c1 hR (q.mono he)
    cases e'
    obtain ⟨b', vs', e', hq2', r2', z2'⟩ := rdL_ok c2 hR (q2.mono he)
    cases e'
    obtain ⟨c', ws', e', hq3', r3', z3'⟩ := rdL_ok c3 hR (q3.mono he)
    cases e'
    have hi : (zipI3 xs ys zs)[i]? = some it := hi
    unfold zipI3 at hi
    rw [List.getElem?_map] at hi
    cases hx : (xs.zip (ys.zip zs))[i]? with
    | none => rw [hx] at hi; cases hi
    | some p =>
      obtain ⟨x, y, t⟩ := p
      rw [hx] at hi
      cases hi
      rw [List.getElem?_zip_eq_some, List.getElem?_zip_eq_some] at hx
      obtain ⟨x1, hx1, rx1⟩ := pget r' hx.1
      obtain ⟨y1, hy1, ry1⟩ := pget r2' hx.2.1
      obtain ⟨t1, ht1, rt1⟩ := pget r3' hx.2.2
      refine ⟨⟨us', vs', ws', x1, y1, t1, hq', hq2', hq3', hx1, hy1, ht1⟩, fun t H2 hy => ?_⟩
      obtain ⟨T, x2, y2, t2, rfl, hT, rfl, f1, f2, f3⟩ := hy
      have e1 := (f1 us' hq').symm.trans hx1
      have e2 := (f2 vs' hq2').symm.trans hy1
      have e3 := (f3 ws' hq3').symm.trans ht1
      cases e1; cases e2; cases e3
      exact ⟨T, [x1, y1, t1], rfl, hT, rfl, .cons rx1 (.cons ry1 (.cons rt1 .nil))⟩
  · obtain ⟨c1, c2, c3⟩ := sp hc
    obtain ⟨a', us', e', hq', r', z'⟩ := rdL_ok c1 hR (q.mono he)
    cases e'
    obtain ⟨b', vs', e', hq2', r2', z2'⟩ := rdL_ok c2 hR (q2.mono he)
    cases e'
    obtain ⟨c', ws', e', hq3', r3', z3'⟩ := rdL_ok c3 hR (q3.mono he)
    cases e'
    refine ⟨us', vs', ws', hq', hq2', hq3', ?_⟩
    have e1 := r'.length
    have e2 := r2'.length
    have e3 := r3'.length
    show us'.length ≤ (zipI3 xs ys zs).length ∨ vs'.length ≤ (zipI3 xs ys zs).length ∨ ws'.length ≤ (zipI3 xs ys zs).length
    unfold zipI3
    rw [List.length_map, List.length_zip, List.length_zip]
    omega
theorem VsR.three {x y z : V} {us : List V} (h : VsR η [x, y, z] us) : ∃ u v w, us = [u, v, w] ∧ VR η x u ∧ VR η y v ∧ VR η z w := by
  cases h with
  | cons r t =>
    cases t with
    | cons r2 t2 =>
      cases t2 with
      | cons r3 t3 => cases t3; exact ⟨_, _, _, rfl, r, r2, r3⟩
theorem fi_zip3 {e2 e3 : Expr} {ma : St → Sto → R (List V)} {p pos tpos : Pos} {elts : List Expr} {kk : Nat} (hg : Gl X "zip") (hm : X.mg "zip" = none) (ha : FA X W [e, e2, e3] ma)
    (hs : starEach [e, e2, e3] X.env = (false, eval e X.env) :: starEach [e2, e3] X.env := by rfl) (hs2 : (backTo pos (starEach [e2, e3] X.env)).any (·.1) = false := by rfl) : FI X W (.Tuple elts kk tpos) (.Call (.Name "zip" p) [e, e2, e3] [] pos) (iZ3 ma) :=
  ⟨_, pi_zip3 hg hm ha.run hs hs2, fun σ H Q h => by
    obtain ⟨η, S, σ0, hR, hS, p⟩ := h
    refine ⟨η, S, σ0, hR, hS, (Po.bind (rel := VsR) p).imp fun us H1 ⟨η1, S1, v, e1, hR1, r1, p1⟩ => ?_⟩
    split at p1
    · rename_i v w y
      obtain ⟨u, z, z3, rfl, q1, q2, q3⟩ := VsR.three r1
      split at p1
      · rename_i xs ys zs h1 h2 h3
        obtain ⟨a, b, c, us, vs, ws, rfl, rfl, rfl, hq, hq2, hq3, j⟩ := JR.zip3 h1 h2 h3 hR1 q1 q2 q3
        exact ⟨a, b, c, us, vs, ws, rfl, hq, hq2, hq3, p1.now hR1 j⟩
      · exact p1.elim
    · exact p1.elim⟩
/-! working with it -/
theorem chkZ3_of {S : Sto} {v w u : V} {xs ys zs : List V} (h : rdL v S = some xs) (h' : rdL w S = some ys) (h'' : rdL u S = some zs) : chkZ3 v w u xs ys zs S = true := by simp [chkZ3, h, h', h'']
theorem iZ3_eq {m : St → Sto → R (List V)} {σ : St} {S S1 : Sto} {v w u : V} {xs ys zs : List V} (e : m σ S = .ok [v, w, u] S1) (h : rdL v S1 = some xs) (h' : rdL w S1 = some ys) (h'' : rdL u S1 = some zs) : iZ3 m σ S = .ok (zipI3 xs ys zs, chkZ3 v w u xs ys zs) S1 := by
  simp [iZ3, e, R.bind, h, h', h'']
end Fx
/-! Fx: a tuple is walked. -/
namespace Fx
open PySem PySem.Spec L2
open PyProof.Rows hiding St
variable {K : PySem.W.Frag} {η : List Addr} {S : Sto} {H : Hp} {X : Cx} {W : WX} {e : Expr} {m : St → Sto → R V}
def chkT (v : V) (xs : List V) : Sto → Bool := fun S => rdT v S == some xs
def iT (m : St → Sto → R V) : St → Sto → R AI := fun σ S => (m σ S).bind fun v S1 => match rdT v S1 with
  | some xs => .ok (xs.map .one, chkT v xs) S1
  | none => .bad
theorem JR.tup {v u : V} {xs : List V} (h : rdT v S = some xs) (r : Rel K η S H) (q : VR η v u) : ∃ a us, u = .ref a ∧ SqT K H a us ∧ JR K η (xs.map .one, chkT v xs) (Itt K a) := by
  obtain ⟨a, us, rfl, hq, r2, z⟩ := rdT_ok h r q
  refine ⟨a, us, rfl, SqT.of hq, by simpa using z, fun η' S' H' i it he hR hc hi => ?_, fun η' S' H' he hR hc => ?_⟩
  · have hc : rdT v S' = some xs := by simpa [chkT] using hc
    obtain ⟨a', us', e', hq', r', z'⟩ := rdT_ok hc hR (q.mono he)
    cases e'
    have hi : (xs.map Itm.one)[i]? = some it := hi
    rw [List.getElem?_map] at hi
    cases hx : xs[i]? with
    | none => rw [hx] at hi; cases hi
    | some x =>
      rw [hx] at hi
      cases hi
      obtain ⟨w, hw, rw'⟩ := pget r' hx
      refine ⟨⟨us', w, SqT.of hq', hw⟩, fun y H2 hy => ?_⟩
      obtain ⟨rfl, hy⟩ := hy
      have := (hy us' (SqT.of hq')).symm.trans hw
      cases this
      exact ⟨rfl, rw'⟩
  · have hc : rdT v S' = some xs := by simpa [chkT] using hc
    obtain ⟨a', us', e', hq', r', z'⟩ := rdT_ok hc hR (q.mono he)
    cases e'
    exact ⟨us', SqT.of hq', by rw [← r'.length]; simp⟩
theorem fi_tup {tg : Expr} (h : FE X W e m) : FI X W tg e (iT m) := ⟨_, pi_tup h.run, fun σ H Q h => by
  obtain ⟨η, S, σ0, hR, hS, p⟩ := h
  refine ⟨η, S, σ0, hR, hS, (Po.bind (rel := VR) p).imp fun u H1 ⟨η1, S1, v, e1, hR1, r1, p1⟩ => ?_⟩
  cases e : rdT v S1 with
  | none => rw [e] at p1; exact p1.elim
  | some xs =>
    rw [e] at p1
    obtain ⟨a, us, rfl, hq, j⟩ := JR.tup e hR1 r1
    exact ⟨a, rfl, ⟨us, hq⟩, p1.now hR1 j⟩⟩
theorem chkT_of {v : V} {xs : List V} (h : rdT v S = some xs) : chkT v xs S = true := by simp [chkT, h]
def kIT (r : R V) : R AI := match r with
  | .ok v S1 => match rdT v S1 with
    | some xs => .ok (xs.map .one, chkT v xs) S1
    | none => .bad
  | .exc c S => .exc c S
  | .bad => .bad
theorem iT_eq (m : St → Sto → R V) (σ : St) (S : Sto) : iT m σ S = kIT (m σ S) := by
  unfold iT kIT
  cases m σ S <;> rfl
theorem kIT_ok {v : V} {xs : List V} (h : rdT v S = some xs) : kIT (.ok v S) = .ok (xs.map .one, chkT v xs) S := by simp [kIT, h]
end Fx
/-! Fx: dicts by pairs of a whole number and a tuple of whole numbers: d[k], d[k] = v, k in d, {}. -/
namespace Fx
open PySem PySem.Spec L2
open PyProof.Rows hiding St
variable {K : PySem.W.Frag} {η : List Addr} {S : Sto} {H : Hp}
abbrev NK := Int × List Int
theorem nums_hash (w w' : World) : ∀ ns : List Int, NestedKey.hashes w (ns.map .num) = NestedKey.hashes w' (ns.map .num)
  | [] => rfl
  | n :: ns => by rw [List.map_cons, NestedKey.hashes, NestedKey.hashes, nums_hash w w' ns]; rfl
theorem nk_hash (w w' : World) (k : NK) : NestedKey.hash w (nkOf k) = NestedKey.hash w' (nkOf k) := by
  unfold nkOf
  simp only [NestedKey.hash, NestedKey.hashes, nums_hash w w' k.2]
theorem nums_depth : ∀ ns : List Int, NestedKey.depthAll (ns.map .num) = 0
  | [] => rfl
  | n :: ns => by rw [List.map_cons, NestedKey.depthAll, NestedKey.depth, nums_depth ns]; rfl
theorem nk_depth (k : NK) : (nkOf k).depth ≤ 8 := by
  unfold nkOf
  rw [NestedKey.depth, NestedKey.depthAll, NestedKey.depthAll, NestedKey.depthAll, NestedKey.depth, NestedKey.depth, nums_depth]
  decide
theorem nums_inj : ∀ {a b : List Int}, a.map NestedKey.num = b.map NestedKey.num → a = b
  | [], [], _ => rfl
  | [], _ :: _, e => by simp at e
  | _ :: _, [], e => by simp at e
  | x :: xs, y :: ys, e => by
    rw [List.map_cons, List.map_cons] at e
    injection e with e1 e2
    injection e1 with e1
    rw [e1, nums_inj e2]
theorem nk_inj {a b : NK} (h : nkOf a = nkOf b) : a = b := by
  unfold nkOf at h
  injection h with h
  injection h with h1 h2
  injection h1 with h1
  injection h2 with h2 _
  injection h2 with h2
  exact Prod.ext h1 (nums_inj h2)
theorem nums_all {h : Heap} : ∀ {ns : List Int} {us : List Value}, Vals (ns.map V.int) us → NestedAll h (ns.map .num) us
  | [], _, r => by rw [List.map_nil] at r; cases r; exact .nil
  | n :: ns, _, r => by
    rw [List.map_cons] at r
    cases r with
    | cons h t =>
      rename_i u us
      obtain ⟨tk, rfl⟩ : ∃ tk, u = .int n tk := h
      exact .cons (.int _ _) (nums_all t)
/-- a tracked tuple of a whole number and a tuple of whole numbers is a key -/
theorem nk_is {P : Program} {w : World} {H : Hp} {h : Heap} {k : NK} {b : Addr} (ok : HOk P w H h) (e : NKh H k b) : (nestedKind P w).is h (nkOf k) b := by
  obtain ⟨c, e1, e2⟩ := e
  obtain ⟨_, its, r, o, h1, h2, n, h3⟩ := (show ObjOk P w H h b (.tup [.int k.1, .ref c]) from ok b _ e1)
  obtain ⟨_, its2, r2, o2, g1, g2, n2, g3⟩ := (show ObjOk P w H h c (.tup (k.2.map V.int)) from ok c _ e2)
  refine ⟨?_, nk_depth k⟩
  cases r with
  | cons ra rt =>
    cases rt with
    | cons rb rn =>
      cases rn
      rename_i u v
      obtain ⟨tk, rfl⟩ : ∃ tk, u = .int k.1 tk := ra
      obtain rfl : v = .ref c := rb
      exact .tup h1 h2 h3 (.cons (.int _ _) (.cons (.tup g1 g2 g3 (by simpa using nums_all r2)) .nil))
/-! the dict's entries -/
abbrev EnR (P : Program) : List NkE → List (NestedKey × Addr × Value) → Prop := Paired fun p q => nkOf p.1 = q.1 ∧ p.2.1 = q.2.1 ∧ RelV p.2.2 q.2.2
def nval (xs : List NkE) (k : NK) : Option V := (xs.find? fun x => decide (x.1 = k)).map (·.2.2)
def nput (xs : List NkE) (k : NK) (b : Addr) (v : V) : List NkE := if (nval xs k).isSome = true then xs.map (fun x => if x.1 = k then (x.1, x.2.1, v) else x) else xs ++ [(k, b, v)]
abbrev EnP : List NkE → List (NestedKey × Addr × Value) → Prop := Paired fun p q => nkOf p.1 = q.1 ∧ p.2.1 = q.2.1 ∧ RelV p.2.2 q.2.2
theorem EnP.val {xs : List NkE} {ys : List (NestedKey × Addr × Value)} (r : EnP xs ys) (k : NK) : RelO (nval xs k) ((atKey ys (nkOf k)).map (·.2)) := by
  induction r with
  | nil => exact True.intro
  | @cons p q ps qs h t ih =>
    obtain ⟨h1, _, h2⟩ := h
    by_cases e : p.1 = k
    · have e' : q.1 = nkOf k := by rw [← h1, e]
      have a : nval (p :: ps) k = some p.2.2 := by simp [nval, List.find?_cons, e]
      have b : atKey (q :: qs) (nkOf k) = some q.2 := by simp [atKey, List.find?_cons, e']
      rw [a, b]; exact h2
    · have e' : ¬ q.1 = nkOf k := fun z => e (nk_inj (h1.trans z))
      have a : nval (p :: ps) k = nval ps k := by simp [nval, List.find?_cons, e]
      have b : atKey (q :: qs) (nkOf k) = atKey qs (nkOf k) := by simp [atKey, List.find?_cons, e']
      rw [a, b]; exact ih
theorem EnP.repl {xs : List NkE} {ys : List (NestedKey × Addr × Value)} (r : EnP xs ys) (k : NK) {y : V} {u : Value} (ry : RelV y u) :
    EnP (xs.map fun x => if x.1 = k then (x.1, x.2.1, y) else x) (ys.map (putAt (nkOf k) u)) := by
  induction r with
  | nil => exact .nil
  | @cons p q ps qs h t ih =>
    rw [List.map_cons, List.map_cons]
    refine .cons ?_ ih
    obtain ⟨h1, h2, h3⟩ := h
    unfold putAt
    by_cases e : p.1 = k
    · rw [if_pos e, if_pos (by rw [← h1, e])]; exact ⟨h1, h2, ry⟩
    · rw [if_neg e, if_neg (fun z => e (nk_inj (h1.trans z)))]; exact ⟨h1, h2, h3⟩
theorem EnP.put {xs : List NkE} {ys : List (NestedKey × Addr × Value)} (r : EnP xs ys) (k : NK) (b : Addr) {y : V} {u : Value} (ry : RelV y u) : EnP (nput xs k b y) (storedH ys (nkOf k) b u) := by
  unfold nput storedH
  have e : (nval xs k).isSome = (atKey ys (nkOf k)).isSome := by rw [(r.val k).isSome_eq, Option.isSome_map]
  rw [e]
  by_cases q : (atKey ys (nkOf k)).isSome = true
  · rw [if_pos q, if_pos q]; exact r.repl k ry
  · rw [if_neg q, if_neg q]; exact Paired.snoc r ⟨rfl, rfl, ry⟩
theorem nput_le (xs : List NkE) (k : NK) (b : Addr) (v : V) : (nput xs k b v).length ≤ xs.length + 1 := by
  unfold nput
  split
  · rw [List.length_map]; omega
  · rw [List.length_append]; simp
theorem nput_nk {H : Hp} {xs : List NkE} {k : NK} {b : Addr} {v : V} (h : ∀ x ∈ xs, NKh H x.1 x.2.1) (hb : NKh H k b) : ∀ x ∈ nput xs k b v, NKh H x.1 x.2.1 := fun x hx => by
  unfold nput at hx
  split at hx
  · obtain ⟨y, hy, rfl⟩ := List.mem_map.mp hx
    have := h y hy
    split
    · exact this
    · exact this
  · rcases List.mem_append.mp hx with hx | hx
    · exact h x hx
    · rw [List.mem_singleton.mp hx]; exact hb
section
variable {P : Program} {w : World} {h : Heap} {a : Addr}
theorem dn_rd {xs : List NkE} (ok : HOk P w H h) (e : H a = some (DNo a xs)) (hk : ∀ x ∈ xs, NKh H x.1 x.2.1) : xs.length ≤ sizeLine ∧ (a == sysModules) = false ∧ ∃ ys, EnP xs ys ∧ h.DictOfH (nestedKind P w) a ys := by
  have q : ObjOk P w H h a (DNo a xs) := ok a _ e
  obtain ⟨⟨z, y, ys, r, o, es, ep, h1, h2, h3, h4, h5⟩, _, _⟩ := q
  refine ⟨z, y, ys, r, o, es, ep, h1, h2, h3, h4 P w, fun x hx => ?_, h5⟩
  have all : ∀ {l : List NkE} {m : List (NestedKey × Addr × Value)}, EnP l m → (∀ x ∈ l, NKh H x.1 x.2.1) → ∀ x ∈ m, (nestedKind P w).is h x.1 x.2.1 := by
    intro l m q
    induction q with
    | nil => intro _ x hx; exact nomatch hx
    | @cons p q ps qs hq t ih =>
      intro hl x hx
      rcases List.mem_cons.mp hx with e | hx
      · subst e
        obtain ⟨q1, q2, _⟩ := hq
        rw [← q1, ← q2]
        exact nk_is ok (hl p List.mem_cons_self)
      · exact ih (fun y hy => hl y (List.mem_cons_of_mem _ hy)) x hx
  exact all r hk x hx
theorem dn_st {xs : List NkE} {h1 h2 : Heap} (x : xs.length ≤ sizeLine ∧ (a == sysModules) = false ∧ ∃ ys : List (NestedKey × Addr × Value), Paired (fun (p : NkE) (q : NestedKey × Addr × Value) => nkOf p.1 = q.1 ∧ p.2.1 = q.2.1 ∧ RelV p.2.2 q.2.2) xs ys ∧
    ∃ o es ep, h1.get? a = some o ∧ o.ExactDict ∧ o.data = .dict es ep ∧ (∀ (P : Program) (w : World), es.toList = ys.map (entryOfKey (nestedKind P w))) ∧ (ys.map (·.1)).Nodup) (k : ∀ o, h1.get? a = some o → h2.get? a = some o) :
    xs.length ≤ sizeLine ∧ (a == sysModules) = false ∧ ∃ ys : List (NestedKey × Addr × Value), Paired (fun (p : NkE) (q : NestedKey × Addr × Value) => nkOf p.1 = q.1 ∧ p.2.1 = q.2.1 ∧ RelV p.2.2 q.2.2) xs ys ∧
    ∃ o es ep, h2.get? a = some o ∧ o.ExactDict ∧ o.data = .dict es ep ∧ (∀ (P : Program) (w : World), es.toList = ys.map (entryOfKey (nestedKind P w))) ∧ (ys.map (·.1)).Nodup := by
  obtain ⟨z, y, ys, r, o, es, ep, e1, e2, e3, e4, e5⟩ := x
  exact ⟨z, y, ys, r, o, es, ep, k o e1, e2, e3, e4, e5⟩
theorem dn_new {xs : List NkE} {ys : List (NestedKey × Addr × Value)} {H' : Hp} (z : xs.length ≤ sizeLine) (hd : (a == sysModules) = false) (r : EnP xs ys) (dd : h.DictOfH (nestedKind P w) a ys) : ObjOk P w H' h a (DNo a xs) := by
  obtain ⟨o, es, ep, h1, h2, h3, h4, _, h5⟩ := dd
  refine ⟨⟨z, hd, ys, r, o, es, ep, h1, h2, h3, fun P' w' => ?_, h5⟩, ⟨o, h1⟩, fun g1 g2 x k => dn_st x k⟩
  rw [h4]
  have all : ∀ {l : List NkE} {m : List (NestedKey × Addr × Value)}, EnP l m → m.map (entryOfKey (nestedKind P w)) = m.map (entryOfKey (nestedKind P' w')) := by
    intro l m q
    induction q with
    | nil => rfl
    | @cons p q ps qs hq t ih =>
      rw [List.map_cons, List.map_cons, ih]
      congr 1
      unfold entryOfKey
      have : (nestedKind P w).hash q.1 = (nestedKind P' w').hash q.1 := by rw [← hq.1]; exact nk_hash w w' p.1
      rw [this]
  exact all r
end
/-! the rules -/
section
variable {X : Cx} {W : WX} {a b : Expr} {ma mb : St → Sto → R V} {pos : Pos}
def rNix : R2 := fun x y H Q => ∃ a xs k b v, x = .ref a ∧ y = .ref b ∧ H a = some (DNo a xs) ∧ (∀ x ∈ xs, NKh H x.1 x.2.1) ∧ NKh H k b ∧ nval xs k = some v ∧ Q v H
def rNin (neg : Bool) : R2 := fun y x H Q => ∃ a xs k b, x = .ref a ∧ y = .ref b ∧ H a = some (DNo a xs) ∧ (∀ x ∈ xs, NKh H x.1 x.2.1) ∧ NKh H k b ∧ Q (.bl (if neg = true then !(nval xs k).isSome else (nval xs k).isSome)) H
def rNset : TSet := fun o i v H Q => ∃ a xs k b, o = .ref a ∧ i = .ref b ∧ H a = some (DNo a xs) ∧ (∀ x ∈ xs, NKh H x.1 x.2.1) ∧ NKh H k b ∧ xs.length < sizeLine ∧ Q (upd H a (DNo a (nput xs k b v)))
theorem nk_room {A : Around} (hu : A.units + 65 < cLine) : A.in1.units + 8 < cLine := by
  have : A.in1.units ≤ A.units + 1 := by first | exact Nat.le_refl _ | (unfold Around.in1; simp)
  omega
theorem pe_nix (hu : X.A.units + 65 < cLine) {ta tb : TE} (ho : PE X a ta) (hi : PE X b tb) (hs : NoSl b) : PE X (.Subscript a b pos) (tOp rNix ta tb) := by
  refine ⟨fun pins s σ H Q I h => ?_⟩
  refine subD_of PySem.F.slot_dict_getitem.lookup hs (thn (ho.run pins s σ H _ I h) fun u s1 ⟨x, H1, I1, rx, q1⟩ => thn (hi.run pins s1 σ H1 _ I1 q1) fun iv s2 ⟨y, H2, I2, ry, c, xs, k, d, v, ex, ey, e, hk, hb, hv, q2⟩ => ?_)
  subst ex ey
  obtain rfl : u = Value.ref c := rx
  obtain rfl : iv = Value.ref d := ry
  obtain ⟨z, hd, ys, rel, dd⟩ := dn_rd I2.hok e hk
  refine ⟨dd.typeIs, ?_⟩
  obtain ⟨w', hw, rw'⟩ := RelO.some_of (v := v) (o := (atKey ys (nkOf k)).map (·.2)) (by rw [← hv]; exact rel.val k)
  obtain ⟨p, hp, hp2⟩ := Option.map_eq_some_iff.mp hw
  refine wpAny_getItem_heap (nk_room hu) (nk_is I2.hok hb) dd hp ?_
  rw [hp2]
  exact ⟨v, H2, I2.tok _, rw', q2⟩
theorem op_nin (hu : X.A.units + 65 < cLine) : OpR X (compareOp .In) (rNin false) := by
  intro pins s σ H x y v u Q I rx ry ⟨c, xs, k, d, ex, ey, e, hk, hb, q⟩
  subst ex ey
  obtain rfl : u = Value.ref c := ry
  obtain rfl : v = Value.ref d := rx
  obtain ⟨z, hd, ys, rel, dd⟩ := dn_rd I.hok e hk
  refine wpAny_in_heap (nk_room hu) (nk_is I.hok hb) hd dd ?_
  have g := (rel.val k).isSome_eq
  rw [Option.isSome_map] at g
  rw [← g]
  exact ⟨.bl (nval xs k).isSome, H, I.tok _, rfl, q⟩
theorem op_nnin (hu : X.A.units + 65 < cLine) : OpR X (compareOp .NotIn) (rNin true) := by
  intro pins s σ H x y v u Q I rx ry ⟨c, xs, k, d, ex, ey, e, hk, hb, q⟩
  subst ex ey
  obtain rfl : u = Value.ref c := ry
  obtain rfl : v = Value.ref d := rx
  obtain ⟨z, hd, ys, rel, dd⟩ := dn_rd I.hok e hk
  refine wpAny_notIn_heap (nk_room hu) (nk_is I.hok hb) hd dd ?_
  have g := (rel.val k).isSome_eq
  rw [Option.isSome_map] at g
  rw [← g]
  exact ⟨.bl (!(nval xs k).isSome), H, I.tok _, rfl, q⟩
theorem set_dn (hu : X.A.units + 65 < cLine) : PSet X rNset := by
  intro pins s σ H o i v ov iv u Q I ro ri rv ⟨c, xs, k, d, ex, ey, e, hk, hb, hl, q⟩
  subst ex ey
  cases (show ov = Value.ref c from ro)
  cases (show iv = Value.ref d from ri)
  obtain ⟨z, hd, ys, rel, dd⟩ := dn_rd I.hok e hk
  have hz : ys.length ≤ sizeLine := by rw [← Paired.length rel]; exact z
  refine wpAny_setItem_heap (hsz := hz) (nk_room hu) (nk_is I.hok hb) dd fun h' dd' hs => ⟨_, ?_, q⟩
  have he : ∃ q, h'.get? c = some q := let ⟨q, _, _, hq, _⟩ := dd'; ⟨q, hq⟩
  exact d_write I (by rw [e]; exact True.intro) hs he (dn_new (by have := nput_le xs k d v; omega) hd (rel.put k d rv) dd')
theorem pe_dnewN : PE X (.Dict [] [] pos) (fun _ H Q => ∀ p, H p = none → Q (.ref p) (upd H p (DNo p []))) := ⟨fun pins s σ H Q I h =>
  wpAny_Dict_empty ⟨.ref s.heap.objs.size, _, I.laid (a := s.heap.objs.size) (o := DNo s.heap.objs.size []) (t' := s.toks) (fun _ _ q => Heap.get?_push_of_some _ q) (Nat.le_refl _)
    (dn_new (P := X.prog) (w := X.w) (Nat.zero_le _) (beq_eq_false_iff_ne.mpr (Ne.symm (Nat.ne_of_lt I.big))) .nil (Heap.DictOfH.new s.heap)), rfl, h _ (I.hok.fresh (Nat.le_refl _))⟩⟩
end
/-! over the store -/
section
variable {X : Cx} {W : WX} {a b : Expr} {ma mb : St → Sto → R V} {pos : Pos}
def rdN (x : V) (S : Sto) : Option (List (NK × V)) := match x with
  | .ref n => match S[n]? with
    | some (.dN kvs) => some kvs
    | _ => none
  | _ => none
def keyN (y : V) (S : Sto) : Option NK := match rdT y S with
  | some [.int n, c] => match rdT c S with
    | some ws => (allI ws).map fun ns => (n, ns)
    | none => none
  | _ => none
theorem VsR_ints : ∀ {ns : List Int} {us : List V}, VsR η (ns.map V.int) us → us = ns.map V.int
  | [], _, .nil => rfl
  | n :: ns, _, .cons q t => by
    rw [List.map_cons, VsR_ints t]
    have q : _ = V.int n := q
    rw [q]
theorem keyN_ok {y v : V} {k : NK} (h : keyN y S = some k) (hR : Rel K η S H) (r : VR η y v) : ∃ b, v = .ref b ∧ NKh H k b := by
  unfold keyN at h
  split at h
  · rename_i n c e
    split at h
    · rename_i ws e2
      obtain ⟨ns, hn, rfl⟩ := Option.map_eq_some_iff.mp h
      obtain ⟨a, us, rfl, hq, r2, z⟩ := rdT_ok e hR r
      cases r2 with
      | cons ra rt =>
        cases rt with
        | cons rb rn =>
          cases rn
          rename_i u w
          have ra : u = .int n := ra
          obtain ⟨a2, us2, rfl, hq2, r3, z2⟩ := rdT_ok e2 hR rb
          rw [allI_eq hn] at r3
          subst ra
          exact ⟨a, rfl, a2, hq, by rw [hq2, VsR_ints r3]⟩
    · cases h
  · cases h
abbrev KPN (η : List Addr) : List (NK × V) → List NkE → Prop := Paired fun p q => p.1 = q.1 ∧ VR η p.2 q.2.2
theorem rdN_ok {x u : V} {kvs : List (NK × V)} (h : rdN x S = some kvs) (hR : Rel K η S H) (r : VR η x u) : ∃ (n : Nat) (a : Addr) (xs : List NkE), x = .ref n ∧ η[n]? = some a ∧ S[n]? = some (.dN kvs) ∧ u = .ref a ∧ H a = some (DNo a xs) ∧ KPN η kvs xs ∧ (∀ x ∈ xs, NKh H x.1 x.2.1) ∧ kvs.length ≤ sizeLine := by
  unfold rdN at h
  split at h
  · rename_i n
    split at h
    · rename_i kvs' e
      cases h
      obtain ⟨a, ea, rfl⟩ := r
      obtain ⟨z, xs, e2, p, k⟩ := hR.ob n a _ ea e
      exact ⟨n, a, xs, rfl, ea, e, rfl, e2, p, k, z⟩
    · cases h
  · cases h
def nvalV (kvs : List (NK × V)) (k : NK) : Option V := (kvs.find? fun p => decide (p.1 = k)).map (·.2)
def nputV (kvs : List (NK × V)) (k : NK) (v : V) : List (NK × V) := if (nvalV kvs k).isSome = true then kvs.map (fun p => if p.1 = k then (p.1, v) else p) else kvs ++ [(k, v)]
theorem KPN.val {kvs : List (NK × V)} {xs : List NkE} (h : KPN η kvs xs) (k : NK) : (∃ v u, nvalV kvs k = some v ∧ nval xs k = some u ∧ VR η v u) ∨ (nvalV kvs k = none ∧ nval xs k = none) := by
  induction h with
  | nil => exact .inr ⟨rfl, rfl⟩
  | @cons p q ps qs h t ih =>
    by_cases e : p.1 = k
    · have e' : q.1 = k := by rw [← h.1, e]
      exact .inl ⟨p.2, q.2.2, by simp [nvalV, List.find?_cons, e], by simp [nval, List.find?_cons, e'], h.2⟩
    · have e' : ¬ q.1 = k := fun z => e (h.1.trans z)
      have a : nvalV (p :: ps) k = nvalV ps k := by simp [nvalV, List.find?_cons, e]
      have b : nval (q :: qs) k = nval qs k := by simp [nval, List.find?_cons, e']
      rw [a, b]; exact ih
theorem KPN.repl {kvs : List (NK × V)} {xs : List NkE} (h : KPN η kvs xs) (k : NK) {v u : V} (r : VR η v u) : KPN η (kvs.map fun p => if p.1 = k then (p.1, v) else p) (xs.map fun x => if x.1 = k then (x.1, x.2.1, u) else x) := by
  induction h with
  | nil => exact .nil
  | @cons p q ps qs h t ih =>
    rw [List.map_cons, List.map_cons]
    refine .cons ?_ ih
    by_cases e : p.1 = k
    · rw [if_pos e, if_pos (by rw [← h.1, e])]; exact ⟨h.1, r⟩
    · rw [if_neg e, if_neg (fun z => e (h.1.trans z))]; exact h
theorem KPN.put {kvs : List (NK × V)} {xs : List NkE} (h : KPN η kvs xs) (k : NK) (b : Addr) {v u : V} (r : VR η v u) : KPN η (nputV kvs k v) (nput xs k b u) := by
  unfold nputV nput
  have e : (nvalV kvs k).isSome = (nval xs k).isSome := by
    rcases h.val k with ⟨v, u, h1, h2, _⟩ | ⟨h1, h2⟩
    · rw [h1, h2]; rfl
    · rw [h1, h2]
  rw [e]
  by_cases q : (nval xs k).isSome = true
  · rw [if_pos q, if_pos q]; exact h.repl k r
  · rw [if_neg q, if_neg q]; exact papp h (.cons ⟨rfl, r⟩ .nil)
theorem nputV_le (kvs : List (NK × V)) (k : NK) (v : V) : (nputV kvs k v).length ≤ kvs.length + 1 := by
  unfold nputV
  split
  · rw [List.length_map]; omega
  · rw [List.length_append]; simp
def dixN : V → V → Sto → R V := fun x y S => match rdN x S with
  | some kvs => match keyN y S with
    | some k => match nvalV kvs k with
      | some v => .ok v S
      | none => .bad
    | none => .bad
  | none => .bad
theorem dixN_ok : OpM X rNix dixN := by
  intro W σ η S H x y u v Q hR hx hy p
  unfold dixN at p
  cases e : rdN x S with
  | none => rw [e] at p; exact p.elim
  | some kvs =>
    obtain ⟨n, a, xs, rfl, ea, ho, rfl, hu, kp, hk, z⟩ := rdN_ok e hR hx
    rw [e] at p
    cases ek : keyN y S with
    | none => rw [ek] at p; exact p.elim
    | some k =>
      obtain ⟨b, rfl, hb⟩ := keyN_ok ek hR hy
      rw [ek] at p
      dsimp only at p
      rcases kp.val k with ⟨v, w, h1, h2, r⟩ | ⟨h1, h2⟩
      · rw [h1] at p
        exact ⟨a, xs, k, b, w, rfl, rfl, hu, hk, hb, h2, p.now hR r⟩
      · rw [h1] at p; exact p.elim
theorem fe_dixN (hu : X.A.units + 65 < cLine) (ha : FE X W a ma) (hb : FE X W b mb) (hs : NoSl b := by intro _ _; rfl) : FE X W (.Subscript a b pos) (eO dixN ma mb) :=
  ⟨PE.wk (pe_nix hu ha.run hb.run hs) fun σ H Q h => lf_bin dixN_ok h⟩
def dinN (neg : Bool) : V → V → Sto → R V := fun y x S => match rdN x S with
  | some kvs => match keyN y S with
    | some k => .ok (.bl (if neg = true then !(nvalV kvs k).isSome else (nvalV kvs k).isSome)) S
    | none => .bad
  | none => .bad
theorem dinN_ok {neg : Bool} : OpM X (rNin neg) (dinN neg) := by
  intro W σ η S H y x v u Q hR hy hx p
  unfold dinN at p
  cases e : rdN x S with
  | none => rw [e] at p; exact p.elim
  | some kvs =>
    obtain ⟨n, a, xs, rfl, ea, ho, rfl, hu, kp, hk, z⟩ := rdN_ok e hR hx
    rw [e] at p
    cases ek : keyN y S with
    | none => rw [ek] at p; exact p.elim
    | some k =>
      obtain ⟨b, rfl, hb⟩ := keyN_ok ek hR hy
      rw [ek] at p
      refine ⟨a, xs, k, b, rfl, rfl, hu, hk, hb, p.now hR ?_⟩
      rcases kp.val k with ⟨v, w, h1, h2, r⟩ | ⟨h1, h2⟩
      · rw [h1, h2]; rfl
      · rw [h1, h2]; rfl
theorem fe_dinN (hu : X.A.units + 65 < cLine) (ha : FE X W a ma) (hb : FE X W b mb) (hk : behindInMarks .In b = false := by rfl) : FE X W (.Compare a [.In] [b] pos) (eO (dinN false) ma mb) := fe_cmp (op_nin hu) dinN_ok ha hb hk
theorem fe_dninN (hu : X.A.units + 65 < cLine) (ha : FE X W a ma) (hb : FE X W b mb) (hk : behindInMarks .NotIn b = false := by rfl) : FE X W (.Compare a [.NotIn] [b] pos) (eO (dinN true) ma mb) := fe_cmp (op_nnin hu) dinN_ok ha hb hk
theorem ft_dinN (hu : X.A.units + 65 < cLine) (ha : FE X W a ma) (hb : FE X W b mb) (hk : behindInMarks .In b = false := by rfl) : FT X W (.Compare a [.In] [b] pos) (tV (eO (dinN false) ma mb)) := ft_cmp (op_nin hu) dinN_ok ha hb hk
theorem ft_dninN (hu : X.A.units + 65 < cLine) (ha : FE X W a ma) (hb : FE X W b mb) (hk : behindInMarks .NotIn b = false := by rfl) : FT X W (.Compare a [.NotIn] [b] pos) (tV (eO (dinN true) ma mb)) := ft_cmp (op_nnin hu) dinN_ok ha hb hk
def setN : V → V → V → Sto → R Unit := fun o i v S => match o with
  | .ref n => match rdN (.ref n) S with
    | some kvs => match keyN i S with
      | some k => if kvs.length < lim then .ok () (S.set n (.dN (nputV kvs k v))) else .bad
      | none => .bad
    | none => .bad
  | _ => .bad
theorem dn_ne_tup {a : Addr} {xs : List NkE} {us : List V} : DNo a xs ≠ .tup us := fun z => by unfold DNo at z; cases z
theorem NKh.upd {H : Hp} {a : Addr} {xs ys : List NkE} {k : NK} {b : Addr} (h : NKh H k b) (e : H a = some (DNo a xs)) : NKh (L2.upd H a (DNo a ys)) k b := by
  obtain ⟨c, h1, h2⟩ := h
  refine ⟨c, ?_, ?_⟩
  · rw [upd_ne (fun z => by rw [z, e] at h1; injection h1 with h1; exact dn_ne_tup h1)]; exact h1
  · rw [upd_ne (fun z => by rw [z, e] at h2; injection h2 with h2; exact dn_ne_tup h2)]; exact h2
theorem setN_ok : SetM X rNset setN := by
  intro W σ η S H o i v uo ui uv Q hR ho hi hv p
  unfold setN at p
  split at p
  · rename_i n
    split at p
    · rename_i kvs e
      obtain ⟨n', a, xs, e', ea, hS, rfl, hu, kp, hk, z⟩ := rdN_ok e hR ho
      cases e'
      split at p
      · rename_i k ek
        obtain ⟨b, rfl, hb⟩ := keyN_ok ek hR hi
        split at p
        · rename_i hl
          have hl' : kvs.length < sizeLine := hl
          have hz : (nputV kvs k v).length ≤ sizeLine := by have := nputV_le kvs k v; omega
          refine ⟨a, xs, k, b, rfl, rfl, hu, hk, hb, by rw [← kp.length]; exact hl', ?_⟩
          exact p η _ () (Ext.set hR ea hS rfl) (hR.set ea hS rfl ⟨hz, _, upd_same, kp.put k b hv, fun x hx => (nput_nk hk hb x hx).upd hu⟩ rfl) trivial
        · exact p.elim
      · exact p.elim
    · exact p.elim
  · exact p.elim
def eDnewN : St → Sto → R V := fun _ S => alloc (.dN []) S
theorem fe_dnewN : FE X W (.Dict [] [] pos) eDnewN := ⟨PE.wk pe_dnewN fun σ H Q h => by
  obtain ⟨η, S, σ0, hR, hS, p⟩ := h
  exact fun q hq => p (η ++ [q]) _ _ (Ext.new hR hq _) (hR.new hq (o := .dN []) ⟨Nat.zero_le _, [], upd_same, .nil, fun _ h => nomatch h⟩ rfl) (VR.new hR)⟩
end
/-! a < b by data -/
section
variable {X : Cx} {W : WX} {a b : Expr} {ma mb : St → Sto → R V} {pos apos cpos : Pos}
def rLtD (K : PySem.W.Frag) : R2 := fun x y H Q => ∃ d e, Dp K H x d ∧ Dp K H y e ∧ SeqAt.shaped d = true ∧ PySem.W.alike d e = true ∧ d ≠ .none ∧ Q (.bl (PySem.W.dataLt d e)) H
theorem op_ltD (hu : X.A.units + 64 < cLine) : OpR X (compareOp .Lt) (rLtD X.K) := by
  intro pins s σ H x y v u Q I rx ry h
  obtain ⟨d, e, hd, he, sd, ha, hn, q⟩ := h
  obtain ⟨as, r1⟩ := Dp.reads I d x v hd rx
  obtain ⟨bs, r2⟩ := Dp.reads I e y u he ry
  have hdep : d.depth ≤ 64 := by
    unfold SeqAt.shaped at sd
    rw [Bool.and_eq_true, decide_eq_true_eq] at sd
    exact sd.2
  exact PySem.W.lt_data r1 r2 ha hn (by omega) ⟨.bl _, H, I, rfl, q⟩
def isNonD : PyData → Bool
  | .none => true
  | _ => false
def ltDB (x y : V) (S : Sto) : Option Bool := match toD 5 S x, toD 5 S y with
  | some d, some e => if SeqAt.shaped d = true ∧ PySem.W.alike d e = true ∧ isNonD d = false then some (PySem.W.dataLt d e) else none
  | _, _ => none
def ltDM : V → V → Sto → R V := fun x y S => match ltDB x y S with
  | some b => .ok (.bl b) S
  | none => .bad
theorem ltDM_ok : OpM X (rLtD X.K) ltDM := by
  intro W σ η S H x y u v Q hR hx hy p
  unfold ltDM ltDB at p
  split at p
  · rename_i b hb
    split at hb
    · rename_i d e hd he
      split at hb
      · rename_i hs
        cases hb
        exact ⟨d, e, toD_ok hR 5 x u d hd hx, toD_ok hR 5 y v e he hy, hs.1, hs.2.1, fun z => (by rw [z] at hs; exact absurd hs.2.2 (by decide)), p.now hR rfl⟩
      · cases hb
    · cases hb
  · exact p.elim
theorem ltDM_tabs {S : Sto} {x y : V} {T U : List (List Int)} (hx : toD 5 S x = some (PySem.W.Datum.toD T)) (hy : toD 5 S y = some (PySem.W.Datum.toD U)) (hs : SeqAt.shaped (PySem.W.Datum.toD T) = true) : ltDM x y S = .ok (.bl (PySem.W.listLt T U)) S := by
  have h1 := PySem.W.DatumOrd.alike T U
  have h2 : isNonD (PySem.W.Datum.toD T) = false := rfl
  have h3 : PySem.W.dataLt (PySem.W.Datum.toD T) (PySem.W.Datum.toD U) = PySem.W.listLt T U := PySem.W.DatumOrd.lt_eq T U
  unfold ltDM ltDB
  rw [hx, hy]
  simp only [hs, h1, h2, h3, and_self, if_true]
end
/-! min(t) of a tuple of whole numbers -/
section
variable {X : Cx} {W : WX} {a b : Expr} {ma mb : St → Sto → R V} {pos apos cpos : Pos}
theorem minOf_eq (x : Int) (xs : List Int) : PySem.W.minOf x xs = minL (x :: xs) := by
  show xs.foldl _ x = xs.foldl min x
  congr 1
  funext a y
  have e : PySem.W.DatumOrd.lt y a = decide (y < a) := rfl
  rw [e]
  by_cases h : y < a
  · simp only [h, decide_true, if_true]; omega
  · simp only [h, decide_false, Bool.false_eq_true, if_false]; omega
theorem dp_ints {H : Hp} : ∀ ns : List Int, DpAll K H (ns.map V.int) (ns.map PyData.int)
  | [] => .nil
  | n :: ns => .cons (.int n) (dp_ints ns)
def rMinT (K : PySem.W.Frag) : List V → Hp → VK → Prop := fun vs H Q => ∃ (a : Addr) (ns : List Int), vs = [V.ref a] ∧ SqT K H a (ns.map V.int) ∧ 0 < ns.length ∧ Q (.int (minL ns)) H
theorem cr_minT (hc : X.calm = true) (hu : X.A.units + 65 < cLine) : CallR X (.builtin "min") (rMinT X.K) := by
  intro pins s σ H vs us Q I r h
  obtain ⟨a, ns, rfl, hs, hne, q⟩ := h
  obtain ⟨its, rv, hl, _⟩ := I.tuple hs
  rw [Vals.ref1 r]
  cases ns with
  | nil => cases hne
  | cons x xs =>
    obtain ⟨as, ra⟩ := Dp.readsAll I ((x :: xs).map PyData.int) _ its (dp_ints (x :: xs)) rv
    have hd : PySem.W.Datum.depth Int ≤ 64 := by decide
    have hu2 : X.A.units + 1 + PySem.W.Datum.depth Int < cLine := by omega
    refine PySem.W.min_tuple_datum (α := Int) (x := x) (xs := xs) (I.ok.hd hc) (show s.heap.IsTuple a its.toArray from hl) ⟨as, ra⟩ hu2 fun i v h' tk hi hv hk => ?_
    obtain ⟨bs, rb⟩ := hv
    rw [minOf_eq] at rb
    have rb : Reads h' v (.int (minL (x :: xs))) bs := rb
    cases rb with
    | int t => exact ⟨.int _, H, I.kept hk, ⟨_, rfl⟩, q⟩
def minTM : List V → Sto → R V := fun vs S => match vs with
  | [x] => match (rdT x S).bind allI with
    | some ns => if 0 < ns.length then .ok (.int (minL ns)) S else .bad
    | none => .bad
  | _ => .bad
theorem minTM_ok : CallM X (rMinT X.K) minTM := by
  intro W σ η S H xs us Q hR hx p
  unfold minTM at p
  split at p
  · rename_i x
    obtain ⟨u, rfl, r⟩ := VsR.one hx
    split at p
    · rename_i ns h
      split at p
      · rename_i h0
        obtain ⟨ys, e, h⟩ := Option.bind_eq_some_iff.mp h
        have e2 := allI_eq h
        subst e2
        obtain ⟨a, us, rfl, hq, r2, _⟩ := rdT_ok e hR r
        rw [VsR.ints r2] at hq
        exact ⟨a, ns, rfl, SqT.of hq, h0, p.now hR rfl⟩
      · exact p.elim
    · exact p.elim
  · exact p.elim
theorem minTM_at {S : Sto} {x : Nat} {ns : List Int} (h : S[x]? = some (.tup (ns.map V.int))) (h0 : 0 < ns.length) : minTM [.ref x] S = .ok (.int (minL ns)) S := by
  have e : (rdT (.ref x) S).bind allI = some ns := by
    rw [show rdT (.ref x) S = some (ns.map V.int) by simp [rdT, h]]
    simp [allI_map]
  simp only [minTM, e, h0, if_true]
end
end Fx
/-! Fx: defs that are handed the error that a suite holds, and ask for its class alone. -/
namespace Fx
open PySem PySem.Spec L2
open PyProof.Rows hiding St
/-- tuples of classes laid beside -/
inductive Sd : Hp → Hp → Prop
  | refl (H : Hp) : Sd H H
  | step {H H1 : Hp} {q : Addr} (o : HO) (h : Sd H H1) (hq : H1 q = none) : Sd H (upd H1 q o)
theorem Sd.cons {H H2 : Hp} {q : Addr} {o : HO} (hq : H q = none) (h : Sd (upd H q o) H2) : Sd H H2 := by
  generalize e : upd H q o = H1 at h
  induction h with
  | refl => rw [← e]; exact .step o (.refl H) hq
  | step o2 h hq2 ih => exact .step o2 ih hq2
theorem Sd.go {K : PySem.W.Frag} {η : List Addr} {S : Sto} {H H1 : Hp} (h : Sd H H1) (r : Rel K η S H) : Ext η H η H1 ∧ Rel K η S H1 := by
  induction h with
  | refl => exact ⟨Ext.refl _ _, r⟩
  | step o h hq ih =>
    obtain ⟨e, r1⟩ := ih
    exact ⟨e.trans (Ext.side hq o), r1.side hq o⟩
structure FnX (P : Program) (w : World) (K : PySem.W.Frag) (mg : Str → Option Value) (base : Heap) (k : Nat) (f : Addr) (fd : FuncData) (x0 : Str) (cs : List String) (g : String → Bool) : Prop where
  run : ∀ (A : Around) (outer : List Env) (s : Shared) (H : Hp) (args : Args) (Q : VK) (p : Addr × Obj) (c : String) (C : Addr), L2H.RoomH k A → c ∈ cs → mg (Str.ofString c) = some (.ref C) → Zc (.ref C) none p.2 → (∃ vs, p.2.data = .fields vs) → L2H.PinOk outer H s p → Env0 P w K mg base A outer s H → BindsTo s fd args [(x0, .ref p.1)] →
    (∀ H1, Sd H H1 → Q (.bl (g c)) H1) → codeAny (model P w) A (.call (.ref f) args) (CR C8.CX0 outer P w H s Q C8.E0) s
/-- a test in such a def -/
structure FXB (X : Cx) (p : Addr × Obj) (cs : List String) (e : Expr) (g : String → Bool) : Prop where
  run : ∀ (c : String) (C : Addr), c ∈ cs → X.mg (Str.ofString c) = some (.ref C) → Zc (.ref C) none p.2 → (∃ vs, p.2.data = .fields vs) → PE X e fun σ H Q => σ[0]? = some (some (.ref p.1)) ∧ ∀ H1, Sd H H1 → Q (.bl (g c)) H1
section
variable {X : Cx} {p : Addr × Obj} {cs : List String} {e e2 : Expr} {g g2 : String → Bool} {pos pos2 pos3 pos4 p1 p2 p3 : Pos}
theorem call_isET' {a D : Addr} {oe : Obj} (hp : (a, oe) ∈ X.pn) (C : ExcC X.K D) (hz : Zc (.ref D) none oe) (hf : ∃ vs, oe.data = .fields vs) : CallR X (.builtin "isinstance") (rIsET X.K D a) := by
  intro pins s σ H xs us Q I r h
  obtain ⟨tp, Ds, b, rfl, hT, e, q⟩ := h
  obtain ⟨u1, u2, rfl, r1, r2⟩ := vals2 r
  cases (show u1 = Value.ref a from r1)
  cases (show u2 = Value.ref tp from r2)
  obtain ⟨hget, _⟩ := I.pin (a, oe) (List.mem_append.mpr (.inl hp))
  obtain ⟨_, its, rv, o, h1, h2, n, h3⟩ := (show ObjOk _ _ H s.heap tp (.tup (Ds.map V.ref)) from I.hok tp _ hT)
  have e3 := refs_vals rv
  subst e3
  obtain ⟨oc, od, dt, sl⟩ := o
  simp only at h2 h3
  subst h2 h3
  exact PySem.W.kia_tup (PySem.W.handS_kitx_exc C.hg C.hk C.hs C.hd C.ha C.hn C.ht C.hm) I.kIn (excAt hz hf hget) h1 e (fun z => nomatch z) fun tk => ⟨.bl b, H, I.kept (t' := tk) fun _ _ z => z, rfl, q⟩
theorem fxb_isT {n : Str} {es : List Expr} {ds : List String} {k : Nat} (hp : p ∈ X.pn) (hE : ExCs X.K X.mg cs) (hN : X.N[0]? = some n) (hv : Vis X.env.scope n) (hg : Gl X "isinstance") (hm : X.mg "isinstance" = none) (hb : bootBuiltins "isinstance" = some (.builtin "isinstance")) (h : NmsC X cs es ds) (hl : ds.length ≤ 1000)
    (hd : (n == ("__debug__" : Str)) = false := by decide) (hcd : (n == ("__classdict__" : Str)) = false := by decide)
    (he : starEach (.Name n p1 :: [.Tuple es k p2]) X.env = (false, eval (.Name n p1) X.env) :: starEach [.Tuple es k p2] X.env := by rfl) (he2 : starEach [.Tuple es k p2] X.env = (false, eval (.Tuple es k p2) X.env) :: starEach [] X.env := by rfl)
    (hpl : (backTo pos (starEach [.Tuple es k p2] X.env)).any (·.1) = false := by rfl) :
    FXB X p cs (.Call (.Name "isinstance" p3) [.Name n p1, .Tuple es k p2] [] pos) (fAny ds) :=
  ⟨fun c C h1 h2 h3 h4 => by
    obtain ⟨Ds, t, q1, q2, q3, q4⟩ := h.pa
    refine PE.wk (pe_callB (call_isET' (a := p.1) (oe := p.2) hp (hE c h1 C h2) h3 h4) hg hm hb (pa_cons (pe_var (i := 0) hN hv hd hcd) (pa_cons (pe_tup q1) pa_nil he2) he) (by decide) (by decide) he hpl) fun σ H Q hh => ?_
    obtain ⟨ha, k⟩ := hh
    refine ⟨.ref p.1, ha, q2 σ H _ ⟨by rw [List.length_map, q3, sizeLine_eq]; omega, fun q hq => ?_⟩⟩
    exact ⟨q, Ds, _, rfl, upd_same, q4 c h1 C h2, k _ (.step _ (.refl _) hq)⟩⟩
theorem fxb_not (h : FXB X p cs e g) : FXB X p cs (.UnaryOp .Not e pos) (fun c => !g c) :=
  ⟨fun c C h1 h2 h3 h4 => PE.wk (pe_not (h.run c C h1 h2 h3 h4)) fun σ H Q hh => ⟨hh.1, fun H1 s => ⟨g c, rfl, hh.2 H1 s⟩⟩⟩
/-- if e: return b; return e2 -/
theorem fxs_two {b : Bool} {j : Nat} (h : FXB X p cs e g) (h2 : FXB X p cs e2 g2) (he : ∀ whole, isTrue e X.env whole = (do let v ← whole; standAt e.pos; holding [v] (truthy v)) := by intro _; rfl) {c : String} {C : Addr} (q1 : c ∈ cs) (q2 : X.mg (Str.ofString c) = some (.ref C)) (q3 : Zc (.ref C) none p.2) (q4 : ∃ vs, p.2.data = .fields vs) :
    ∃ t, PSs X [.If e [.Return (some (.Constant (.bool b) j pos)) pos2] [] pos3, .Return (some e2) pos4] t ∧ ∀ (D : Ends) (σ : St) (H : Hp), σ[0]? = some (some (.ref p.1)) → (∀ H1, Sd H H1 → D.rt (.bl (if g c = true then b else g2 c)) H1) → t D σ H := by
  refine ⟨_, pss_cons (ps_if (pt_val (h.run c C q1 q2 q3 q4) he) (pss_one (ps_ret pe_bl)) pss_nil) (pss_one (ps_ret (h2.run c C q1 q2 q3 q4))), fun D σ H ha k => ?_⟩
  refine ⟨ha, fun H1 s1 => ⟨g c, rfl, ?_⟩⟩
  cases hg : g c with
  | true =>
    rw [hg] at k
    exact k H1 s1
  | false =>
    rw [hg] at k
    refine ⟨ha, fun H2 s2 => k H2 ?_⟩
    clear k hg
    induction s2 with
    | refl => exact s1
    | step o h hq ih => exact .step o ih hq
theorem fnx_ok {P : Program} {w : World} {K : PySem.W.Frag} {mg : Str → Option Value} {base : Heap} {x qual : Str} {st : Stmt} {f : Addr} {fd : FuncData} {n : Str} {k : Nat} {b : Bool} {j : Nat} (F : Fun K x qual st f fd) (S : FnScope [n] [n] (defScope st))
    (hst : defBody st = [.If e [.Return (some (.Constant (.bool b) j pos)) pos2] [] pos3, .Return (some e2) pos4])
    (hb : ∀ (cdv : Value) (A : Around) (outer : List Env) (s : Shared) (H : Hp) (p : Addr × Obj), FXB (L2H.cxH C8.CX0 P w K mg base [n] qual (defScope st) f cdv A outer s H C8.E0 p) p cs e g ∧ FXB (L2H.cxH C8.CX0 P w K mg base [n] qual (defScope st) f cdv A outer s H C8.E0 p) p cs e2 g2 ∧
      ∀ whole, isTrue e (L2H.cxH C8.CX0 P w K mg base [n] qual (defScope st) f cdv A outer s H C8.E0 p).env whole = (do let v ← whole; standAt e.pos; holding [v] (truthy v))) :
    FnX P w K mg base (k + 1) f fd n cs (fun c => if g c = true then b else g2 c) := by
  obtain ⟨⟨oc, od, kV, doc, pm, an, cdv, ct, osl, rfl, lk, hcd⟩, _⟩ := F
  refine ⟨fun A outer s H args Q p c C hr q1 q2 q3 q4 hpin e0 hbd hQ => ?_⟩
  have KX : K.In s.heap := e0.mod.kin.keeps fun b o e => (e0.bs b o e).1
  have lim : s.heap.NoLimit := e0.mod.nolimit.keeps fun b o e => (e0.bs b o e).1
  have hkind : ∀ y ∈ [n].zip [Value.ref p.1], (defScope st).names.lookup y.1 = some .local ∨ ((defScope st).names.lookup y.1 = some .cell ∧ ((cellsFrom (s.heap.objs.size + 1) (defScope st).names []).lookup y.1).isSome = true) := fun ⟨n, v⟩ hy => by
    rcases S.par n (List.of_mem_zip hy).1 with q | q
    · exact .inl q
    · exact .inr ⟨q, PySem.W.cellsFrom_some _ _ _ (.inl q)⟩
  refine codeAny_call_function hr.depth (KX _ _ lk) rfl S.co S.gen rfl (PySem.W.codeRec_of KX hcd) (hbd _ _ _ _ ?_)
  refine wpAny_newFunctionEnv_cells S.kind hkind fun env he s1 x => ?_
  subst he
  refine ⟨lim.keeps x.toInCall.keep, codeAny_func ?_⟩
  obtain ⟨b1, b2, b3⟩ := hb cdv A outer s H p
  obtain ⟨t, ht, hq⟩ := fxs_two (j := j) (pos := pos) (pos2 := pos2) (pos3 := pos3) (pos4 := pos4) (b := b) b1 b2 b3 q1 q2 q3 q4
  have I : Inv (L2H.cxH C8.CX0 P w K mg base [n] qual (defScope st) f cdv A outer s H C8.E0 p) [] (L2.start [n] [V.ref p.1]) H s1 := L2H.inv_startH (us := [Value.ref p.1]) S hpin e0 rfl (.cons rfl .nil) x
  rw [← hst] at ht
  refine wpAny_mono (ht.run [] s1 (L2.start [n] [V.ref p.1]) H { nx := fun _ H' => Q .non H', rt := Q } I (hq _ _ _ rfl hQ)) (fun fl s' hs => ?_) fun e s' hs => hs
  have fin : ∀ {σ' : St} {H' : Hp} {v : V} {u : Value}, Inv (L2H.cxH C8.CX0 P w K mg base [n] qual (defScope st) f cdv A outer s H C8.E0 p) [] σ' H' s' → RelV v u → Q v H' → CE outer P w H s Q u s' :=
    fun {σ' H' v u} J rv q => ⟨v, H', J.os, J.bare, J.base, J.hok, rv, q⟩
  cases fl with
  | ret u =>
    obtain ⟨v, σ', H', J, rv, q⟩ := hs
    exact fin J rv q
  | next =>
    obtain ⟨σ', H', J, q⟩ := hs
    exact fin (v := V.non) (u := Value.none) J rfl q
  | brk =>
    obtain ⟨_, _, _, q⟩ := hs
    exact False.elim q
  | cont =>
    obtain ⟨_, _, _, q⟩ := hs
    exact False.elim q
end
section
variable {X : Cx} {i : Nat} {cs : List String} {g : String → Bool} {p p1 p2 p3 pos : Pos}
/-- the call, in the suite -/
theorem fub_call {k : Nat} {f : Addr} {fd : FuncData} {x n n0 : Str} (F : FnX X.prog X.w X.K X.mg X.base k f fd n0 cs g) (hr : Room k X.A) (hN : X.N[i]? = some n) (hv : Vis X.env.scope n) (hg : Gl X x) (hm : X.mg x = some (.ref f)) (hk : PySem.W.keepIn X.K (.ref f) = true) (hb : Binds X.K fd [n0] [])
    (hdb : (x == ("__debug__" : Str)) = false := by decide) (hd : (n == ("__debug__" : Str)) = false := by decide) (hcd : (n == ("__classdict__" : Str)) = false := by decide)
    (he : starEach [.Name n p1] X.env = (false, eval (.Name n p1) X.env) :: starEach [] X.env := by rfl) (hpl : (backTo pos (starEach [] X.env)).any (·.1) = false := by rfl) :
    FUB X i cs (.Call (.Name x p) [.Name n p1] [] pos) g :=
  ⟨fun a oe pn c C h1 h2 h3 h4 => by
    refine ⟨fun pins s σ H Q I h => ?_⟩
    obtain ⟨η, S, hR, ha, kk⟩ := h
    refine wpAny_Call_Name_kw (ld_glob (X := X.suite a ((a, oe) :: pn)) I hg hm ?_ hdb)
    have hpa : PA (X.suite a ((a, oe) :: pn)) [.Name n p1] (tCons (tVar i) tNil) := pa_cons (pe_var (i := i) hN hv hd hcd) pa_nil he
    refine PySem.W.callWith_K (h₀ := X.base) I.ok.mod.kin hk (thn (hpa.run pos pins s σ H (fun vs H1 => vs = [V.ref a] ∧ H1 = H) I ⟨.ref a, ha, rfl, rfl⟩) fun us s1 ⟨vs, H1, I1, r, q⟩ => ⟨I1.kIn, ?_⟩) he hpl
    obtain ⟨rfl, rfl⟩ := q
    rw [Vals.ref1 r]
    have P1 := I1.pin (a, oe) (List.mem_append.mpr (.inl List.mem_cons_self))
    have hpin : L2H.PinOk (X.suite a ((a, oe) :: pn)).stack H1 s1 (a, oe) := ⟨P1.1, P1.2.1, fun hm => (List.mem_cons.mp (I1.stkSub a hm)).elim P1.2.2.1 P1.2.2.2.1, P1.2.2.2.2⟩
    have b := hb s1 [Value.ref a] I1.kIn rfl
    rw [List.append_nil] at b
    refine wpAny_call (codeAny_mono (F.run (X.suite a ((a, oe) :: pn)).A (X.suite a ((a, oe) :: pn)).stack s1 H1 ⟨[Value.ref a], []⟩ Q (a, oe) c C (show L2H.RoomH k (X.suite a ((a, oe) :: pn)).A from ⟨hr.dp, hr.un⟩) h1 h2 h3 h4 hpin I1.env0 b (fun H2 sd => kk H2 (sd.go hR).1 (sd.go hR).2)) fun r s' hq => ?_)
    cases r with
    | error e => exact False.elim hq
    | ok fl =>
      cases fl with
      | ret u => exact I1.after hq
      | next => exact False.elim hq
      | brk => exact False.elim hq
      | cont => exact False.elim hq⟩
/-- x = n + int(test) -/
def uAdd (j : Nat) (n : Int) (f : String → Bool) : String → St → St := fun c σ => σ.set j (some (.int (n + (if f c = true then 1 else 0))))
theorem fu_add {j : Nat} {x : Str} {n : Int} {jj : Nat} {e : Expr} {f : String → Bool} {p5 p6 p7 : Pos} (h : FUB X i cs e f) (hN : X.N.Nodup) (hi : X.N[j]? = some x) (hx : Loc X.env.scope x) (hij : (j == i) = false) (hg : Gl X "int") (hm : X.mg "int" = none) (hb : bootBuiltins "int" = some (.type "int"))
    (hs : swapsWith (.BinOp (.Constant (.int n) jj p2) .Add (.Call (.Name "int" p5) [e] [] p6) p7) (some (.Name x p)) pos.line X.env = pure false := by rfl)
    (he : starEach [e] X.env = (false, eval e X.env) :: starEach [] X.env := by rfl)
    (hf : X.fn x = true ∨ X.env.scope.names.lookup x = some .local := by first | exact .inl rfl | exact .inr rfl | assumption) :
    FU X i cs (.Assign [.Name x p] (.BinOp (.Constant (.int n) jj p2) .Add (.Call (.Name "int" p5) [e] [] p6) p7) pos) (uAdd j n f) :=
  ⟨fun a oe pn c C h1 h2 h3 h4 => PS.wk (ps_set (X := X.suite a ((a, oe) :: pn)) (i := j) hN hi hx (pe_op op_add pe_int (pe_callTy call_int1 hg hm hb (pa_cons (h.run a oe pn c C h1 h2 h3 h4) pa_nil he) (by decide) (by decide) he rfl)) hs hf) fun D σ H hh => by
    obtain ⟨η, S, σ0, hR, hS, ha, k⟩ := hh
    refine ⟨η, S, hR, ha, fun H1 e1 r1 => .inr ⟨f c, rfl, ?_⟩⟩
    refine ⟨n, if f c = true then 1 else 0, rfl, rfl, ?_⟩
    refine k H1 _ e1 r1 (hS.set j (show OR η (some (.int _)) (some (.int _)) from rfl)) ?_
    rw [List.getElem?_set_ne (by simpa using hij)]; exact ha⟩
end
structure DfX (P : Program) (w : World) (K : PySem.W.Frag) (mg : Str → Option Value) (base : Heap) (x : Str) (k : Nat) (n0 : Str) (cs : List String) (g : String → Bool) : Prop where
  ex : ∃ (f : Addr) (fd : FuncData), FnX P w K mg base k f fd n0 cs g ∧ mg x = some (.ref f) ∧ PySem.W.keepIn K (.ref f) = true ∧ Binds K fd [n0] []
theorem FnX.mono {P : Program} {w : World} {K : PySem.W.Frag} {mg : Str → Option Value} {base : Heap} {k j : Nat} {f : Addr} {fd : FuncData} {x0 : Str} {cs : List String} {g : String → Bool} (F : FnX P w K mg base k f fd x0 cs g) (h : k ≤ j) : FnX P w K mg base j f fd x0 cs g :=
  ⟨fun A outer s H args Q p c C hr => F.run A outer s H args Q p c C (hr.mono h)⟩
theorem fub_call' {X : Cx} {i j : Nat} {cs : List String} {g : String → Bool} {p p1 pos : Pos} {k : Nat} {x n n0 : Str} (D : DfX X.prog X.w X.K X.mg X.base x k n0 cs g) (hr : Room j X.A) (hj : k ≤ j) (hN : X.N[i]? = some n) (hv : Vis X.env.scope n) (hg : Gl X x)
    (hdb : (x == ("__debug__" : Str)) = false := by decide) (hd : (n == ("__debug__" : Str)) = false := by decide) (hcd : (n == ("__classdict__" : Str)) = false := by decide)
    (he : starEach [.Name n p1] X.env = (false, eval (.Name n p1) X.env) :: starEach [] X.env := by rfl) (hpl : (backTo pos (starEach [] X.env)).any (·.1) = false := by rfl) :
    FUB X i cs (.Call (.Name x p) [.Name n p1] [] pos) g := by
  obtain ⟨f, fd, F, h1, h2, h3⟩ := D.ex
  exact fub_call (F.mono hj) hr hN hv hg h1 h2 h3 hdb hd hcd he hpl
end Fx
/-! Fx: several except clauses, with or without a name; a suite that returns a test of its error. -/
namespace Fx
open PySem PySem.Spec L2
open PyProof.Rows hiding St
abbrev Hd := Value × Option Nat × (Addr → Value → Option Addr → TS)
def wManyA (K : PySem.W.Frag) (Wout : WX) (D : Ends) : List Hd → WX
  | [] => Wout
  | (c, none, ts) :: r => fun cls d σ H => ∃ b, PySem.W.exmOne K cls c = some b ∧ (b = true → ∀ a, H a = none → ts a cls d D σ H) ∧ (b = false → wManyA K Wout D r cls d σ H)
  | (c, some i, ts) :: r => fun cls d σ H => ∃ b, PySem.W.exmOne K cls c = some b ∧ (b = true → ∀ a, H a = none → ts a cls d { nx := fun σ' H' => D.nx (σ'.set i none) H', rt := D.rt, bk := fun σ' H' => D.bk (σ'.set i none) H', ct := fun σ' H' => D.ct (σ'.set i none) H' } (σ.set i (some (.ref a))) H) ∧
      (b = false → wManyA K Wout D r cls d σ H)
inductive HdsA (X : Cx) : List ExceptHandler → List Hd → Prop
  | nil : HdsA X [] []
  | plain {x : Str} {c : Value} {ts : Addr → Value → Option Addr → TS} {b₀ : Stmt} {suite : List Stmt} {np pos' : Pos} {hds : List ExceptHandler} {l : List Hd} (hc : Names X x c)
      (hsu : ∀ (a : Addr) (oe : Obj) (cls : Value) (d : Option Addr) (pn : List (Addr × Obj)), Zc cls d oe → (∃ vs, oe.data = .fields vs) → PSs (X.suite a ((a, oe) :: pn)) (b₀ :: suite) (ts a cls d)) (r : HdsA X hds l) :
      HdsA X (.ExceptHandler (some (.Name x np)) none (b₀ :: suite) pos' :: hds) ((c, none, ts) :: l)
  | named {x n : Str} {i : Nat} {c : Value} {ts : Addr → Value → Option Addr → TS} {b₀ : Stmt} {suite : List Stmt} {np pos' : Pos} {hds : List ExceptHandler} {l : List Hd} (hi : X.N[i]? = some n) (hln : X.env.kindOf n = some .local) (hc : Names X x c)
      (hsu : ∀ (a : Addr) (oe : Obj) (cls : Value) (d : Option Addr) (pn : List (Addr × Obj)), Zc cls d oe → (∃ vs, oe.data = .fields vs) → PSs (X.suite a ((a, oe) :: pn)) (b₀ :: suite) (ts a cls d)) (r : HdsA X hds l) :
      HdsA X (.ExceptHandler (some (.Name x np)) (some n) (b₀ :: suite) pos' :: hds) ((c, some i, ts) :: l)
section
variable {X : Cx} {body : List Stmt} {h₀ : ExceptHandler} {hds : List ExceptHandler} {l : List Hd} {pos : Pos} {tb : WX → TS} {Wout : WX}
theorem ps_try_manyA (hs : X.stack = X.env :: X.outer) (hf : X.env.frame = some X.env.locals) (hN : X.N.Nodup) (tk : Takes X Wout)
    (hb : ∀ (W : WX) (pn : List (Addr × Obj)) (xe : Value → Shared → Prop), Takes (X.tr pn xe) W → PassesOwn (model X.prog X.w) X.A X.env xe → PSs (X.tr pn xe) body (tb W))
    (hh : HdsA X (h₀ :: hds) l) : PS X (.Try body (h₀ :: hds) [] [] pos) (fun D σ H => tb (wManyA X.K Wout D l) D σ H) := by
  refine ⟨fun pins s σ H D I h => ?_⟩
  have ok := I.ok
  have hfr : X.A.frames = some (X.env :: X.outer) := by rw [ok.frames, hs]
  refine wpAny_Try_except ?_
  refine wpAny_mono ((hb (wManyA X.K Wout D l) (X.pn ++ pins) (fun e s₁ => wpAny (model X.prog X.w) X.A (noteFrame e X.env) (fun _ s₂ => wpAny (model X.prog X.w) X.A (setFlight e none) (fun _ s₃ =>
    wpAny (model X.prog X.w) X.A (handleBy e X.env (h₀ :: hds)) (SP X pins D) X.xe s₃) X.xe s₂) X.xe s₁) (fun u s' xx => ?_) PassesOwn.looking).run [] s σ H D (I.toTry _) h) (fun f s1 hsp => ?_) (fun e s1 he => he)
  · obtain ⟨a, B, sI, pins', σ', H', cls, d, rfl, J', nb, up, sky, na, os, ag, w⟩ := xx
    have J : Inv X pins σ' H' sI := J'.ofTry ok
    have sky' : Sky B (X.env :: X.outer) a (Zc cls d) X.env.locals s'.heap := by rw [← hs]; exact sky
    show wpAny (model X.prog X.w) X.A (noteFrame (.ref a) X.env) _ _ _
    refine Sky.land Zc.steady hfr hf sky' fun h3 fl3 up3 => ?_
    have J3 : Inv X pins σ' H' { s' with heap := h3 } := J.landed nb fl3.1 (up.trans up3) os ag
    obtain ⟨oe3, vs3, he3, hz3, hd3⟩ := fl3.there
    have notFr : ∀ {h : Heap} {o : Obj} {vs : Array Value}, h.FunFrames B (X.env :: X.outer) → h.get? a = some o → o.data = .fields vs → a ∉ frs (X.env :: X.outer) := fun {h o vs} ff e dd hm => by
      obtain ⟨_, o', e', hnf⟩ := ff.mem hm
      rw [e] at e'; cases e'
      exact hnf _ dd
    have nfr := notFr fl3.2.2.1 he3 hd3
    have nL : a ≠ X.env.locals := fun z => nfr (List.mem_filterMap.mpr ⟨X.env, List.mem_cons_self, by rw [hf, z]⟩)
    have nF : a ∉ X.fs := fun hm => by
      obtain ⟨e, he, q⟩ := List.mem_filterMap.mp hm
      exact nfr (List.mem_filterMap.mpr ⟨e, List.mem_cons_of_mem _ he, q⟩)
    have S3 := J3.suite he3 hd3 na nL nF
    have LT : PySem.W.Looks (model X.prog X.w) h3 (typeOf (.ref a)) cls := fun A Q E s k q => wpAny_typeOf_ref (k _ _ he3) (by rw [hz3.1]; exact q)
    have test : ∀ {x : Str} {np : Pos} {c : Value}, Names X x c → ∀ {Q : Value → Shared → Prop} {E : Value → Shared → Prop}, Q c { s' with heap := h3 } → wpAny (model X.prog X.w) (X.A.mark (some (.ref a))) (eval (.Name x np) X.env) Q E { s' with heap := h3 } := fun {x np c} hc {Q E} q => by
      obtain ⟨hg, hdbg, hm | ⟨hm, hv, hnn⟩⟩ := hc
      · exact ld_glob (X := X.suite a ((a, oe3) :: (X.pn ++ pins))) S3 hg hm q hdbg
      · exact ld_blt (X := X.suite a ((a, oe3) :: (X.pn ++ pins))) S3 hg hm hv q hnn hdbg
    have go : ∀ {hds' : List ExceptHandler} {l' : List Hd}, HdsA X hds' l' → wManyA X.K Wout D l' cls d σ' H' →
        wpAny (model X.prog X.w) X.A (handleBy (.ref a) X.env hds') (SP X pins D) X.xe { s' with heap := h3 } := by
      intro hds' l' hk
      induction hk with
      | nil =>
        intro w
        refine wpAny_handleBy_nil ?_
        obtain ⟨k1, k2, k3, oe, vs, T, oT, ts', he, hz, hd, h1, hr⟩ := id fl3
        unfold PySem.passOn
        refine wpAny_bind (wpAny_field he hd h1 ?_)
        rw [if_neg (show ¬ ((Value.ref T == Value.none) = true) from by simp)]
        have fin : wpAny (model X.prog X.w) X.A (setFlight (.ref a) X.env.frame) (fun _ s4 => wpAny (model X.prog X.w) X.A (throw (.ref a) : Sem Flow) (SP X pins D) X.xe s4) X.xe { s' with heap := h3 } := by
          rw [hf]
          refine HandSPX.setFlight_upZ fl3 fun h4 hh4 up4 => wpAny_throw (tk _ _ ?_)
          exact ⟨a, B, sI, pins, σ', H', cls, d, rfl, J, nb, (up.trans up3).trans up4, .inr (.inr (by rw [hs]; exact hh4)), na, os, ag, w⟩
        first
          | exact wpAny_bind (wpAny_pure (wpAny_bind fin))
          | exact wpAny_bind fin
      | @plain x c ts b₀ suite np pos' hds2 l2 hc hsu r ih =>
        intro w
        obtain ⟨b, hb1, hyes, hno⟩ := w
        refine wpAny_handleBy_cons (codeAny_handlers_test ?_) (by intro q; cases q)
        have LM := PySem.W.exm_one (M := model X.prog X.w) (J3.kIn) LT hb1
        refine test hc (LM.here ?_)
        cases b with
        | true =>
          refine codeAny_handlers_suite ?_
          refine HandSPX.lands_againZ fl3 fun h4 fl4 up4 => ?_
          have J4 : Inv X pins σ' H' { s' with heap := h4 } := J.landed nb fl4.1 ((up.trans up3).trans up4) os ag
          obtain ⟨oe4, vs4, he4, hz4, hd4⟩ := fl4.there
          have S4 := J4.suite he4 hd4 na nL nF
          refine wpAny_mono ((hsu a oe4 cls d (X.pn ++ pins) hz4 ⟨_, hd4⟩).run [] _ _ H' _ S4 (hyes rfl a na)) (fun f s6 hsp => ?_) (fun _ _ z => False.elim z)
          cases f with
          | next =>
            obtain ⟨σ6, H6, S6, q6⟩ := hsp
            exact ⟨_, _, S6.unsuite ok, q6⟩
          | brk =>
            obtain ⟨σ6, H6, S6, q6⟩ := hsp
            exact ⟨_, _, S6.unsuite ok, q6⟩
          | cont =>
            obtain ⟨σ6, H6, S6, q6⟩ := hsp
            exact ⟨_, _, S6.unsuite ok, q6⟩
          | ret u =>
            obtain ⟨v6, σ6, H6, S6, r6, q6⟩ := hsp
            exact ⟨_, _, _, S6.unsuite ok, r6, q6⟩
        | false =>
          show wpAny _ X.A (handleBy (.ref a) X.env hds2) _ _ _
          exact ih (hno rfl)
      | @named x n i c ts b₀ suite np pos' hds2 l2 hi hln hc hsu r ih =>
        intro w
        obtain ⟨b, hb1, hyes, hno⟩ := w
        refine wpAny_handleBy_cons (codeAny_handlers_test ?_) (by intro q; cases q)
        have LM := PySem.W.exm_one (M := model X.prog X.w) (J3.kIn) LT hb1
        refine test hc (LM.here ?_)
        cases b with
        | true =>
          refine codeAny_handlers_suite_as ?_
          refine HandSPX.lands_againZ fl3 fun h4 fl4 up4 => ?_
          have J4 : Inv X pins σ' H' { s' with heap := h4 } := J.landed nb fl4.1 ((up.trans up3).trans up4) os ag
          obtain ⟨oe4, vs4, he4, hz4, hd4⟩ := fl4.there
          have S4 := J4.suite he4 hd4 na nL nF
          refine store_ok (X := X.suite a ((a, oe4) :: (X.pn ++ pins))) (v := .ref a) S4 hN hi (.inl hln) rfl (fun s5 S5 => ?_) (.inr hln)
          refine wpAny_mono ((hsu a oe4 cls d (X.pn ++ pins) hz4 ⟨_, hd4⟩).run [] s5 _ H' _ S5 (hyes rfl a na)) (fun f s6 hsp => ?_) (fun _ _ z => False.elim z)
          have end_ : ∀ {σ6 : St} {H6 : Hp} {Q : Shared → Prop}, Inv (X.suite a ((a, oe4) :: (X.pn ++ pins))) [] σ6 H6 s6 → (∀ s7, Inv X pins (σ6.set i none) H6 s7 → Q s7) →
              wpAny (model X.prog X.w) X.A (do bindName X.env n .none; unbindBehindTheSuite X.env n pos') (fun _ s7 => Q s7) X.xe s6 := fun {σ6 H6 Q} S6 hq => gone_ok (S6.unsuite ok) hN hi hln hq
          cases f with
          | next =>
            obtain ⟨σ6, H6, S6, q6⟩ := hsp
            exact end_ S6 fun s7 J7 => ⟨_, _, J7, q6⟩
          | brk =>
            obtain ⟨σ6, H6, S6, q6⟩ := hsp
            exact end_ S6 fun s7 J7 => ⟨_, _, J7, q6⟩
          | cont =>
            obtain ⟨σ6, H6, S6, q6⟩ := hsp
            exact end_ S6 fun s7 J7 => ⟨_, _, J7, q6⟩
          | ret u =>
            obtain ⟨v6, σ6, H6, S6, r6, q6⟩ := hsp
            exact end_ S6 fun s7 J7 => ⟨_, _, _, J7, r6, q6⟩
        | false =>
          show wpAny _ X.A (handleBy (.ref a) X.env hds2) _ _ _
          exact ih (hno rfl)
    exact go hh w
  · cases f with
    | next =>
      obtain ⟨σ', H', J', q⟩ := hsp
      exact wpAny_execs_nil ⟨σ', H', J'.ofTry ok, q⟩
    | brk =>
      obtain ⟨σ', H', J', q⟩ := hsp
      exact ⟨σ', H', J'.ofTry ok, q⟩
    | cont =>
      obtain ⟨σ', H', J', q⟩ := hsp
      exact ⟨σ', H', J'.ofTry ok, q⟩
    | ret u =>
      obtain ⟨v, σ', H', J', r, q⟩ := hsp
      exact ⟨v, σ', H', J'.ofTry ok, r, q⟩
end
/-! the readings -/
inductive Cl
  | pl (h : String) (ms : St → Sto → R Fl)
  | nm (h : String) (i : Nat) (u : String → St → St)
def clGo : List Cl → String → St → Sto → R Fl
  | [], c, σ, S => .ok (.rs c σ) S
  | .pl h ms :: r, c, σ, S => if subE c h = true then noRs (ms σ S) else clGo r c σ S
  | .nm h i u :: r, c, σ, S => if i < σ.length then (if subE c h = true then .ok (.nx ((u c (σ.set i none)).set i none)) S else clGo r c σ S) else .bad
def sTryM (cs : List String) (cl : List Cl) (body : St → Sto → R Fl) : St → Sto → R Fl := fun σ S => match body σ S with
  | .ok (.rs c σ1) S1 => if cs.contains c = true then clGo cl c σ1 S1 else .bad
  | r => r
inductive ClD (X : Cx) (cs : List String) : List ExceptHandler → List Cl → Prop
  | nil : ClD X cs [] []
  | pl {x : Str} {h : String} {b₀ : Stmt} {suite : List Stmt} {np pos' : Pos} {ms : St → Sto → R Fl} {hds : List ExceptHandler} {l : List Cl} (hg : Gl X x) (hk : HdX X.K X.mg cs h) (hsu : ∀ (a : Addr) (oe : Obj) (pn : List (Addr × Obj)), FSs (X.suite a ((a, oe) :: pn)) W0 (b₀ :: suite) ms) (r : ClD X cs hds l)
      (hx : x = Str.ofString h := by rfl) (hdb : (x == ("__debug__" : Str)) = false := by decide) : ClD X cs (.ExceptHandler (some (.Name x np)) none (b₀ :: suite) pos' :: hds) (.pl h ms :: l)
  | nm {x n : Str} {h : String} {i : Nat} {b₀ : Stmt} {suite : List Stmt} {np pos' : Pos} {u : String → St → St} {hds : List ExceptHandler} {l : List Cl} (hi : X.N[i]? = some n) (hln : X.env.kindOf n = some .local) (hg : Gl X x) (hk : HdX X.K X.mg cs h) (hsu : FUs X i cs (b₀ :: suite) u) (r : ClD X cs hds l)
      (hx : x = Str.ofString h := by rfl) (hdb : (x == ("__debug__" : Str)) = false := by decide) : ClD X cs (.ExceptHandler (some (.Name x np)) (some n) (b₀ :: suite) pos' :: hds) (.nm h i u :: l)
abbrev tsN (X : Cx) (cs : List String) (i : Nat) (u : String → St → St) : Addr → Value → Option Addr → TS := fun a cls d => fun D σ H => ∃ c C, c ∈ cs ∧ X.mg (Str.ofString c) = some (.ref C) ∧ cls = .ref C ∧ d = none ∧ ∃ η S σ0, Rel X.K η S H ∧ SR η σ0 σ ∧ σ[i]? = some (some (.ref a)) ∧ ∀ H1 σ1, Ext η H η H1 → Rel X.K η S H1 → SR η (u c σ0) σ1 → σ1[i]? = some (some (.ref a)) → D.nx σ1 H1
theorem ClD.go {X : Cx} {cs : List String} {W : WX} {hds : List ExceptHandler} {cl : List Cl} (k : ClD X cs hds cl) : ∃ l : List Hd, HdsA X hds l ∧
    ∀ (D : Ends) (η η' : List Addr) (H H' : Hp) (c : String) (C : Addr) (σ1 σ2 : St) (S1 : Sto), c ∈ cs → X.mg (Str.ofString c) = some (.ref C) → Ext η H η' H' → Rel X.K η' S1 H' → SR η' σ1 σ2 → PoS X W D η H (clGo cl c σ1 S1) → wManyA X.K W D l (.ref C) none σ2 H' := by
  induction k with
  | nil => exact ⟨[], .nil, fun D η η' H H' c C σ1 σ2 S1 _ hC e' hR' hS' p => p η' H' σ2 C e' hR' hS' hC⟩
  | @pl x h b₀ suite np pos' ms hds l hg hk hsu r hx hdb ih =>
    obtain ⟨l', h1, h2⟩ := ih
    obtain ⟨Ch, hm, hk⟩ := hk
    refine ⟨(.ref Ch, none, fun _ _ _ => lfS X W0 ms) :: l', .plain ⟨hg, hdb, .inl (by rw [hx]; exact hm)⟩ (fun a oe cls d pn _ _ => (hsu a oe pn).run) h1, fun D η η' H H' c C σ1 σ2 S1 hc hC e' hR' hS' p => ?_⟩
    refine ⟨subE c h, hk c hc C hC, fun hb a ha => ?_, fun hb => ?_⟩
    · rw [clGo, if_pos hb] at p
      exact ⟨η', S1, σ1, hR', hS', PoS.mono e' (lfS_nx p)⟩
    · rw [clGo, if_neg (by rw [hb]; decide)] at p
      exact h2 D η η' H H' c C σ1 σ2 S1 hc hC e' hR' hS' p
  | @nm x n h i b₀ suite np pos' u hds l hi hln hg hk hsu r hx hdb ih =>
    obtain ⟨l', h1, h2⟩ := ih
    obtain ⟨Ch, hm, hk⟩ := hk
    refine ⟨(.ref Ch, some i, tsN X cs i u) :: l', .named hi hln ⟨hg, hdb, .inl (by rw [hx]; exact hm)⟩ (fun a oe cls d pn hz hfl => ⟨fun pins s σ H D I hh => by
      obtain ⟨c, C, h1, h2, rfl, rfl, h3⟩ := hh
      exact (hsu.run a oe pn c C h1 h2 hz hfl).run pins s σ H D I h3⟩) h1, fun D η η' H H' c C σ1 σ2 S1 hc hC e' hR' hS' p => ?_⟩
    rw [clGo] at p
    by_cases hl : i < σ1.length
    · rw [if_pos hl] at p
      refine ⟨subE c h, hk c hc C hC, fun hb a ha => ?_, fun hb => ?_⟩
      · rw [if_pos hb] at p
        refine ⟨c, C, hc, hC, rfl, rfl, η', S1, σ1.set i none, hR', hS'.unset i _, ?_, fun H1 σ3 e1 r1 s1 _ => ?_⟩
        · exact List.getElem?_set_self (by rw [← hS'.length]; exact hl)
        · exact p η' H1 (σ3.set i none) (e'.trans e1) r1 (s1.unset i none)
      · rw [if_neg (by rw [hb]; decide)] at p
        exact h2 D η η' H H' c C σ1 σ2 S1 hc hC e' hR' hS' p
    · rw [if_neg hl] at p; exact p.elim
theorem fs_tryM {X : Cx} {W : WX} {cs : List String} {cl : List Cl} {body : List Stmt} {h₀ : ExceptHandler} {hds : List ExceptHandler} {pos : Pos} {mb : St → Sto → R Fl} (hs : X.stack = X.env :: X.outer) (hf : X.env.frame = some X.env.locals) (hN : X.N.Nodup) (tk : Takes X W)
    (hb : ∀ (W : WX) (pn : List (Addr × Obj)) (xe : Value → Shared → Prop), Takes (X.tr pn xe) W → PassesOwn (model X.prog X.w) X.A X.env xe → FSs (X.tr pn xe) W body mb)
    (k : ClD X cs (h₀ :: hds) cl) : FS X W (.Try body (h₀ :: hds) [] [] pos) (sTryM cs cl mb) := by
  obtain ⟨l, h1, h2⟩ := k.go (W := W)
  refine ⟨PS.wk (ps_try_manyA (tb := fun W' => lfS X W' mb) hs hf hN tk (fun W' pn xe t q => (hb W' pn xe t q).run) h1) fun D σ H hh => ?_⟩
  obtain ⟨η, S, σ0, hR, hS, p⟩ := hh
  refine ⟨η, S, σ0, hR, hS, ?_⟩
  unfold sTryM at p
  cases e : mb σ0 S with
  | ok f S1 =>
    rw [e] at p
    cases f with
    | rs c σ1 =>
      intro η' H' σ2 C e' hR' hS' hC
      dsimp only at p
      by_cases hcs : cs.contains c = true
      · rw [if_pos hcs] at p
        exact h2 D η η' H H' c C σ1 σ2 S1 (by simpa using hcs) hC e' hR' hS' p
      · rw [if_neg hcs] at p; exact p.elim
    | nx σ1 => exact p
    | rt v => exact p
    | bk σ1 => exact p
    | ct σ1 => exact p
  | exc c S1 => rw [e] at p; exact p.elim
  | bad => rw [e] at p; exact p.elim
section
variable {X : Cx} {i : Nat} {cs : List String} {e e2 : Expr} {f g : String → Bool} {p p2 p3 pos : Pos}
/-- isinstance(error, Own) -/
theorem fub_is1 {n x : Str} {d : String} (hE : ExCs X.K X.mg cs) (I1 : IsC X.K X.mg cs d) (hN : X.N[i]? = some n) (hv : Vis X.env.scope n) (hg : Gl X "isinstance") (hm : X.mg "isinstance" = none) (hb : bootBuiltins "isinstance" = some (.builtin "isinstance")) (hgx : Gl X x) (hx : x = Str.ofString d := by rfl)
    (hdx : (x == ("__debug__" : Str)) = false := by decide) (hd : (n == ("__debug__" : Str)) = false := by decide) (hcd : (n == ("__classdict__" : Str)) = false := by decide)
    (he : starEach (.Name n p :: [.Name x p2]) X.env = (false, eval (.Name n p) X.env) :: starEach [.Name x p2] X.env := by rfl) (he2 : starEach [.Name x p2] X.env = (false, eval (.Name x p2) X.env) :: starEach [] X.env := by rfl)
    (hpl : (backTo pos (starEach [.Name x p2] X.env)).any (·.1) = false := by rfl) :
    FUB X i cs (.Call (.Name "isinstance" p3) [.Name n p, .Name x p2] [] pos) (fun c => subE c d) :=
  ⟨fun a oe pn c C h1 h2 h3 h4 => by
    obtain ⟨D, hD, hk⟩ := I1.ex
    refine PE.wk (pe_callB (X := X.suite a ((a, oe) :: pn)) (call_isE (hE c h1 C h2) h3 h4) hg hm hb (pa_cons (pe_var (i := i) hN hv hd hcd) (pa_cons (pe_glob (v := .ref D) hgx (by rw [hx]; exact hD) rfl hdx) pa_nil he2) he) (by decide) (by decide) he hpl) fun σ H Q hh => ?_
    obtain ⟨η, S, hR, ha, k⟩ := hh
    exact ⟨.ref a, ha, .ref D, .ref D, _, rfl, fun u hu => hu, hk c h1 C h2, k H (Ext.refl _ _) hR⟩⟩
theorem fub_or (h : FUB X i cs e f) (h2 : FUB X i cs e2 g) : FUB X i cs (.BoolOp .Or [e, e2] pos) (fun c => f c || g c) :=
  ⟨fun a oe pn c C q1 q2 q3 q4 => PE.wk (pe_or (h.run a oe pn c C q1 q2 q3 q4) (pe_one (h2.run a oe pn c C q1 q2 q3 q4))) fun σ H Q hh => by
    obtain ⟨η, S, hR, ha, k⟩ := hh
    refine ⟨η, S, hR, ha, fun H1 e1 r1 => ⟨f c, rfl, ?_⟩⟩
    cases hf : f c with
    | true =>
      have := k H1 e1 r1
      simp only [hf, Bool.true_or] at this
      exact this
    | false =>
      refine ⟨η, S, r1, ha, fun H2 e2 r2 => ?_⟩
      have := k H2 (e1.trans e2) r2
      simp only [hf, Bool.false_or] at this
      exact this⟩
/-- x = n + k * int(test) -/
def uAddMul (j : Nat) (n k : Int) (f : String → Bool) : String → St → St := fun c σ => σ.set j (some (.int (n + k * (if f c = true then 1 else 0))))
theorem fu_addmul {j : Nat} {x : Str} {n k : Int} {jj jk : Nat} {p5 p6 p7 p8 p9 : Pos} (h : FUB X i cs e f) (hN : X.N.Nodup) (hi : X.N[j]? = some x) (hx : Loc X.env.scope x) (hij : (j == i) = false) (hg : Gl X "int") (hm : X.mg "int" = none) (hb : bootBuiltins "int" = some (.type "int"))
    (hs : swapsWith (.BinOp (.Constant (.int n) jj p2) .Add (.BinOp (.Constant (.int k) jk p8) .Mult (.Call (.Name "int" p5) [e] [] p6) p7) p9) (some (.Name x p)) pos.line X.env = pure false := by rfl) (hk : -1000 ≤ k ∧ k ≤ 1000 := by decide)
    (he : starEach [e] X.env = (false, eval e X.env) :: starEach [] X.env := by rfl)
    (hf : X.fn x = true ∨ X.env.scope.names.lookup x = some .local := by first | exact .inl rfl | exact .inr rfl | assumption) :
    FU X i cs (.Assign [.Name x p] (.BinOp (.Constant (.int n) jj p2) .Add (.BinOp (.Constant (.int k) jk p8) .Mult (.Call (.Name "int" p5) [e] [] p6) p7) p9) pos) (uAddMul j n k f) :=
  ⟨fun a oe pn c C h1 h2 h3 h4 => PS.wk (ps_set (X := X.suite a ((a, oe) :: pn)) (i := j) hN hi hx (pe_op op_add pe_int (pe_op op_mul pe_int (pe_callTy call_int1 hg hm hb (pa_cons (h.run a oe pn c C h1 h2 h3 h4) pa_nil he) (by decide) (by decide) he rfl))) hs hf) fun D σ H hh => by
    obtain ⟨η, S, σ0, hR, hS, ha, kk⟩ := hh
    refine ⟨η, S, hR, ha, fun H1 e1 r1 => .inr ⟨f c, rfl, ?_⟩⟩
    refine ⟨k, if f c = true then 1 else 0, rfl, rfl, ?_, ?_⟩
    · exact .inl ⟨by omega, by omega⟩
    · refine ⟨n, k * (if f c = true then 1 else 0), rfl, rfl, ?_⟩
      refine kk H1 _ e1 r1 (hS.set j (show OR η (some (.int _)) (some (.int _)) from rfl)) ?_
      rw [List.getElem?_set_ne (by simpa using hij)]; exact ha⟩
end
/-! try: body, except h as n: return test -/
def sTryR (cs : List String) (h : String) (i : Nat) (body : St → Sto → R Fl) (f : String → Bool) : St → Sto → R Fl := fun σ S => match body σ S with
  | .ok (.rs c σ1) S1 => if cs.contains c = true ∧ i < σ1.length then (if subE c h = true then .ok (.rt (.bl (f c))) S1 else .ok (.rs c σ1) S1) else .bad
  | r => r
theorem fs_tryR {X : Cx} {W : WX} {x n : Str} {h : String} {i : Nat} {cs : List String} {body : List Stmt} {e : Expr} {np pos pos' pos2 : Pos} {mb : St → Sto → R Fl} {f : String → Bool} (hs : X.stack = X.env :: X.outer) (hf : X.env.frame = some X.env.locals)
    (hN : X.N.Nodup) (hi : X.N[i]? = some n) (hln : X.env.kindOf n = some .local) (hg : Gl X x) (tk : Takes X W) (hk : HdX X.K X.mg cs h)
    (hb : ∀ (W : WX) (pn : List (Addr × Obj)) (xe : Value → Shared → Prop), Takes (X.tr pn xe) W → PassesOwn (model X.prog X.w) X.A X.env xe → FSs (X.tr pn xe) W body mb)
    (hsu : FUB X i cs e f) (hx : x = Str.ofString h := by rfl) (hdb : (x == ("__debug__" : Str)) = false := by decide) :
    FS X W (.Try body [.ExceptHandler (some (.Name x np)) (some n) [.Return (some e) pos2] pos'] [] [] pos) (sTryR cs h i mb f) := by
  obtain ⟨Ch, hm, hk⟩ := hk
  refine ⟨PS.wk (ps_try_as (tb := fun W' => lfS X W' mb) (ts := fun a cls d => fun D σ H => ∃ c C, c ∈ cs ∧ X.mg (Str.ofString c) = some (.ref C) ∧ cls = .ref C ∧ d = none ∧ ∃ η S, Rel X.K η S H ∧ σ[i]? = some (some (.ref a)) ∧ ∀ H1, Ext η H η H1 → Rel X.K η S H1 → D.rt (.bl (f c)) H1)
    hs hf hN hi hln ⟨hg, hdb, .inl (by rw [hx]; exact hm)⟩ tk (fun W' pn xe t q => (hb W' pn xe t q).run) (fun a oe cls d pn hz hfl => ⟨fun pins s σ H D I hh => by
      obtain ⟨c, C, h1, h2, rfl, rfl, h3⟩ := hh
      exact (pss_one (ps_ret (hsu.run a oe pn c C h1 h2 hz hfl))).run pins s σ H D I h3⟩)) fun D σ H hh => ?_⟩
  obtain ⟨η, S, σ0, hR, hS, p⟩ := hh
  refine ⟨η, S, σ0, hR, hS, ?_⟩
  unfold sTryR at p
  cases e : mb σ0 S with
  | ok fl S1 =>
    rw [e] at p
    cases fl with
    | rs c σ1 =>
      intro η' H' σ2 C e' hR' hS' hC
      dsimp only at p
      by_cases hcs : cs.contains c = true ∧ i < σ1.length
      · rw [if_pos hcs] at p
        have hcm : c ∈ cs := by simpa using hcs.1
        refine ⟨subE c h, hk c hcm C hC, fun hb a ha => ?_, fun hb => ?_⟩
        · rw [if_pos hb] at p
          refine ⟨c, C, hcm, hC, rfl, rfl, η', S1, hR', ?_, fun H1 e1 r1 => ?_⟩
          · exact List.getElem?_set_self (by rw [← hS'.length]; exact hcs.2)
          · exact p η' H1 (.bl (f c)) (e'.trans e1) r1 rfl
        · rw [if_neg (by rw [hb]; decide)] at p
          exact p η' H' σ2 C e' hR' hS' hC
      · rw [if_neg hcs] at p; exact p.elim
    | nx σ1 => exact p
    | rt v => exact p
    | bk σ1 => exact p
    | ct σ1 => exact p
  | exc c S1 => rw [e] at p; exact p.elim
  | bad => rw [e] at p; exact p.elim
/-! for simp -/
def kTrM (r : R Fl) (cs : List String) (cl : List Cl) : R Fl := match r with
  | .ok (.rs c σ1) S1 => if cs.contains c = true then clGo cl c σ1 S1 else .bad
  | r => r
theorem sTryM_eq (cs : List String) (cl : List Cl) (b : St → Sto → R Fl) (σ : St) (S : Sto) : sTryM cs cl b σ S = kTrM (b σ S) cs cl := by
  unfold sTryM kTrM; cases b σ S with
  | ok f S1 => cases f <;> rfl
  | _ => rfl
theorem kTrM_nx (σ : St) (S : Sto) (cs : List String) (cl : List Cl) : kTrM (.ok (.nx σ) S) cs cl = .ok (.nx σ) S := rfl
theorem kTrM_rs {c : String} {cs : List String} (h : cs.contains c = true) (σ : St) (S : Sto) (cl : List Cl) : kTrM (.ok (.rs c σ) S) cs cl = clGo cl c σ S := if_pos h
theorem clGo_nm {c h : String} {i : Nat} {u : String → St → St} {r : List Cl} {σ : St} {S : Sto} (hl : i < σ.length) (hs : subE c h = true) : clGo (.nm h i u :: r) c σ S = .ok (.nx ((u c (σ.set i none)).set i none)) S := by rw [clGo, if_pos hl, if_pos hs]
theorem clGo_nm_no {c h : String} {i : Nat} {u : String → St → St} {r : List Cl} {σ : St} {S : Sto} (hl : i < σ.length) (hs : subE c h = false) : clGo (.nm h i u :: r) c σ S = clGo r c σ S := by rw [clGo, if_pos hl, if_neg (by rw [hs]; decide)]
def kTrR (r : R Fl) (cs : List String) (h : String) (i : Nat) (f : String → Bool) : R Fl := match r with
  | .ok (.rs c σ1) S1 => if cs.contains c = true ∧ i < σ1.length then (if subE c h = true then .ok (.rt (.bl (f c))) S1 else .ok (.rs c σ1) S1) else .bad
  | r => r
theorem sTryR_eq (cs : List String) (h : String) (i : Nat) (b : St → Sto → R Fl) (f : String → Bool) (σ : St) (S : Sto) : sTryR cs h i b f σ S = kTrR (b σ S) cs h i f := by
  unfold sTryR kTrR; cases b σ S with
  | ok f S1 => cases f <;> rfl
  | _ => rfl
theorem kTrR_nx (σ : St) (S : Sto) (cs : List String) (h : String) (i : Nat) (f : String → Bool) : kTrR (.ok (.nx σ) S) cs h i f = .ok (.nx σ) S := rfl
theorem kTrR_rs {c h : String} {cs : List String} {i : Nat} {f : String → Bool} {σ : St} {S : Sto} (h1 : cs.contains c = true) (h2 : subE c h = true) (h3 : i < σ.length) : kTrR (.ok (.rs c σ) S) cs h i f = .ok (.rt (.bl (f c))) S := by
  show (if cs.contains c = true ∧ i < σ.length then _ else _) = _
  rw [if_pos ⟨h1, h3⟩, if_pos h2]
end Fx
/-! Fx: equations of the readings for simp only [ev]; printed by mkev.py. -/
namespace Fx
open PySem L2
def chkL (v : V) (xs : List V) : Sto → Bool := fun S => rdL v S == some xs
def chkZ (v w : V) (xs ys : List V) : Sto → Bool := fun S => (rdL v S == some xs) && (rdL w S == some ys)
def chkY : Sto → Bool := fun _ => true
def kIL2 (o : Option (List V)) (v : V) (S : Sto) : R AI := match o with
  | some xs => .ok (xs.map .one, chkL v xs) S
  | none => .bad
def kZ2 (o p : Option (List V)) (v w : V) (S : Sto) : R AI := match o, p with
  | some xs, some ys => .ok (zipI xs ys, chkZ v w xs ys) S
  | _, _ => .bad
def rng1 (j : Int) (S : Sto) : R AI := if j ≤ 16777216 then (if -1000000 ≤ j then .ok (rngI 0 j.toNat, chkY) S else .bad) else .bad
def rng2 (i j : Int) (S : Sto) : R AI := if -1000000 ≤ i ∧ i ≤ 1000000 ∧ -1000000 ≤ j ∧ j ≤ 1000000 then .ok (rngI i (j - i).toNat, chkY) S else .bad
theorem kIL2_ok (xs : List V) (v : V) (S : Sto) : kIL2 (some xs) v S = .ok (xs.map .one, chkL v xs) S := rfl
theorem kZ2_ok (xs ys : List V) (v w : V) (S : Sto) : kZ2 (some xs) (some ys) v w S = .ok (zipI xs ys, chkZ v w xs ys) S := rfl
theorem rng1_ok {j : Int} (h : -1000000 ≤ j ∧ j ≤ 1000000) (S : Sto) : rng1 j S = .ok (rngI 0 j.toNat, chkY) S := by
  unfold rng1; rw [if_pos (by omega), if_pos (by omega)]
theorem rng2_ok {i j : Int} (h : -1000000 ≤ i ∧ i ≤ 1000000 ∧ -1000000 ≤ j ∧ j ≤ 1000000) (S : Sto) : rng2 i j S = .ok (rngI i (j - i).toNat, chkY) S := by
  unfold rng2; rw [if_pos h]
def kV (o : Option (Option V)) (S : Sto) : R V := match o with
  | some (some v) => .ok v S
  | _ => .bad
theorem kV_ok (v : V) (S : Sto) : kV (some (some v)) S = .ok v S := rfl
def kGT (o : Option (List V)) (is : List Nat) (σ : St) (S : Sto) : R St := match o with
  | some xs => if xs.length = is.length then .ok (gTs is xs σ) S else .bad
  | none => .bad
theorem kGT1 (x : V) (i : Nat) (σ : St) (S : Sto) : kGT (some [x]) [i] σ S = .ok (σ.set i (some x)) S := rfl
theorem kGT2 (x y : V) (i j : Nat) (σ : St) (S : Sto) : kGT (some [x, y]) [i, j] σ S = .ok ((σ.set i (some x)).set j (some y)) S := rfl
theorem kGT3 (x y z : V) (i j k : Nat) (σ : St) (S : Sto) : kGT (some [x, y, z]) [i, j, k] σ S = .ok (((σ.set i (some x)).set j (some y)).set k (some z)) S := rfl
theorem kGT4 (x y z w : V) (i j k l : Nat) (σ : St) (S : Sto) : kGT (some [x, y, z, w]) [i, j, k, l] σ S = .ok ((((σ.set i (some x)).set j (some y)).set k (some z)).set l (some w)) S := rfl
def kSq (r : R Fl) (b : St → Sto → R Fl) : R Fl := match r with
  | .ok (.nx σ1) S1 => b σ1 S1
  | r => r
theorem kSq_nx (σ : St) (S : Sto) (b : St → Sto → R Fl) : kSq (.ok (.nx σ) S) b = b σ S := rfl
theorem kSq_rt (v : V) (S : Sto) (b : St → Sto → R Fl) : kSq (.ok (.rt v) S) b = .ok (.rt v) S := rfl
theorem kSq_bk (σ : St) (S : Sto) (b : St → Sto → R Fl) : kSq (.ok (.bk σ) S) b = .ok (.bk σ) S := rfl
theorem kSq_ct (σ : St) (S : Sto) (b : St → Sto → R Fl) : kSq (.ok (.ct σ) S) b = .ok (.ct σ) S := rfl
theorem kSq_rs (c : String) (σ : St) (S : Sto) (b : St → Sto → R Fl) : kSq (.ok (.rs c σ) S) b = .ok (.rs c σ) S := rfl

def kO2 (r : R V) (m : V → V → Sto → R V) (x : V) : R V := match r with
  | .ok y S => m x y S
  | .exc c S => .exc c S
  | .bad => .bad
theorem kO2_ok (y : V) (S : Sto) (m : V → V → Sto → R V) (x : V) : kO2 (.ok y S) m x = m x y S := rfl
theorem kO2_exc (c : String) (S : Sto) (m : V → V → Sto → R V) (x : V) : kO2 (.exc c S) m x = .exc c S := rfl
def kO1 (r : R V) (m : V → V → Sto → R V) (mb : St → Sto → R V) (σ : St) : R V := match r with
  | .ok x S => kO2 (mb σ S) m x
  | .exc c S => .exc c S
  | .bad => .bad
theorem kO1_ok (x : V) (S : Sto) (m : V → V → Sto → R V) (mb : St → Sto → R V) (σ : St) : kO1 (.ok x S) m mb σ = kO2 (mb σ S) m x := rfl
theorem kO1_exc (c : String) (S : Sto) (m : V → V → Sto → R V) (mb : St → Sto → R V) (σ : St) : kO1 (.exc c S) m mb σ = .exc c S := rfl
def kU (r : R V) (m : V → Sto → R V) : R V := match r with
  | .ok x S => m x S
  | .exc c S => .exc c S
  | .bad => .bad
theorem kU_ok (x : V) (S : Sto) (m : V → Sto → R V) : kU (.ok x S) m = m x S := rfl
theorem kU_exc (c : String) (S : Sto) (m : V → Sto → R V) : kU (.exc c S) m = .exc c S := rfl
def kC2 (r : R (List V)) (x : V) : R (List V) := match r with
  | .ok xs S => .ok (x :: xs) S
  | .exc c S => .exc c S
  | .bad => .bad
theorem kC2_ok (xs : List V) (S : Sto) (x : V) : kC2 (.ok xs S) x = .ok (x :: xs) S := rfl
theorem kC2_exc (c : String) (S : Sto) (x : V) : kC2 (.exc c S) x = .exc c S := rfl
def kC1 (r : R V) (mr : St → Sto → R (List V)) (σ : St) : R (List V) := match r with
  | .ok x S => kC2 (mr σ S) x
  | .exc c S => .exc c S
  | .bad => .bad
theorem kC1_ok (x : V) (S : Sto) (mr : St → Sto → R (List V)) (σ : St) : kC1 (.ok x S) mr σ = kC2 (mr σ S) x := rfl
theorem kC1_exc (c : String) (S : Sto) (mr : St → Sto → R (List V)) (σ : St) : kC1 (.exc c S) mr σ = .exc c S := rfl
def kLst (r : R (List V))  : R V := match r with
  | .ok xs S => if xs.length ≤ 16777216 then .ok (.ref S.length) (S ++ [.lst xs]) else .bad
  | .exc c S => .exc c S
  | .bad => .bad
theorem kLst_ok (xs : List V) (S : Sto)  : kLst (.ok xs S)  = if xs.length ≤ 16777216 then .ok (.ref S.length) (S ++ [.lst xs]) else .bad := rfl
theorem kLst_exc (c : String) (S : Sto)  : kLst (.exc c S)  = .exc c S := rfl
def kTup (r : R (List V))  : R V := match r with
  | .ok xs S => if xs.length ≤ 16777216 then .ok (.ref S.length) (S ++ [.tup xs]) else .bad
  | .exc c S => .exc c S
  | .bad => .bad
theorem kTup_ok (xs : List V) (S : Sto)  : kTup (.ok xs S)  = if xs.length ≤ 16777216 then .ok (.ref S.length) (S ++ [.tup xs]) else .bad := rfl
theorem kTup_exc (c : String) (S : Sto)  : kTup (.exc c S)  = .exc c S := rfl
def kA (r : R (List V)) (m : List V → Sto → R V) : R V := match r with
  | .ok xs S => m xs S
  | .exc c S => .exc c S
  | .bad => .bad
theorem kA_ok (xs : List V) (S : Sto) (m : List V → Sto → R V) : kA (.ok xs S) m = m xs S := rfl
theorem kA_exc (c : String) (S : Sto) (m : List V → Sto → R V) : kA (.exc c S) m = .exc c S := rfl
def kCl (r : R (List V)) (n : Nat) (m : List V → Sto → R V) : R V := match r with
  | .ok xs S => if xs.length = n then m xs S else .bad
  | .exc c S => .exc c S
  | .bad => .bad
theorem kCl_ok (xs : List V) (S : Sto) (n : Nat) (m : List V → Sto → R V) : kCl (.ok xs S) n m = if xs.length = n then m xs S else .bad := rfl
theorem kCl_exc (c : String) (S : Sto) (n : Nat) (m : List V → Sto → R V) : kCl (.exc c S) n m = .exc c S := rfl
def kM0 (r : R V) (t : V → Sto → Bool) (m : V → List V → Sto → R V) : R V := match r with
  | .ok x S => if t x S = true then m x [] S else .bad
  | .exc c S => .exc c S
  | .bad => .bad
theorem kM0_ok (x : V) (S : Sto) (t : V → Sto → Bool) (m : V → List V → Sto → R V) : kM0 (.ok x S) t m = if t x S = true then m x [] S else .bad := rfl
theorem kM0_exc (c : String) (S : Sto) (t : V → Sto → Bool) (m : V → List V → Sto → R V) : kM0 (.exc c S) t m = .exc c S := rfl
def kM2 (r : R (List V)) (m : V → List V → Sto → R V) (x : V) : R V := match r with
  | .ok xs S => m x xs S
  | .exc c S => .exc c S
  | .bad => .bad
theorem kM2_ok (xs : List V) (S : Sto) (m : V → List V → Sto → R V) (x : V) : kM2 (.ok xs S) m x = m x xs S := rfl
theorem kM2_exc (c : String) (S : Sto) (m : V → List V → Sto → R V) (x : V) : kM2 (.exc c S) m x = .exc c S := rfl
def kM1 (r : R V) (t : V → Sto → Bool) (m : V → List V → Sto → R V) (mr : St → Sto → R (List V)) (σ : St) : R V := match r with
  | .ok x S => if t x S = true then kM2 (mr σ S) m x else .bad
  | .exc c S => .exc c S
  | .bad => .bad
theorem kM1_ok (x : V) (S : Sto) (t : V → Sto → Bool) (m : V → List V → Sto → R V) (mr : St → Sto → R (List V)) (σ : St) : kM1 (.ok x S) t m mr σ = if t x S = true then kM2 (mr σ S) m x else .bad := rfl
theorem kM1_exc (c : String) (S : Sto) (t : V → Sto → Bool) (m : V → List V → Sto → R V) (mr : St → Sto → R (List V)) (σ : St) : kM1 (.exc c S) t m mr σ = .exc c S := rfl
def kTV (r : R V)  : R Bool := match r with
  | .ok v S => match v with | .bl b => .ok b S | _ => .bad
  | .exc c S => .exc c S
  | .bad => .bad
theorem kTV_ok0 (b : Bool) (S : Sto)  : kTV (.ok (.bl b) S)  = .ok b S := rfl
theorem kTV_exc (c : String) (S : Sto)  : kTV (.exc c S)  = .exc c S := rfl
def kAn (r : R Bool) (u : St → Sto → R Bool) (σ : St) : R Bool := match r with
  | .ok c S => if c = true then u σ S else .ok false S
  | .exc c S => .exc c S
  | .bad => .bad
theorem kAn_ok0  (S : Sto) (u : St → Sto → R Bool) (σ : St) : kAn (.ok true S) u σ = u σ S := rfl
theorem kAn_ok1  (S : Sto) (u : St → Sto → R Bool) (σ : St) : kAn (.ok false S) u σ = .ok false S := rfl
theorem kAn_exc (c : String) (S : Sto) (u : St → Sto → R Bool) (σ : St) : kAn (.exc c S) u σ = .exc c S := rfl
def kOr (r : R Bool) (u : St → Sto → R Bool) (σ : St) : R Bool := match r with
  | .ok c S => if c = true then .ok true S else u σ S
  | .exc c S => .exc c S
  | .bad => .bad
theorem kOr_ok0  (S : Sto) (u : St → Sto → R Bool) (σ : St) : kOr (.ok true S) u σ = .ok true S := rfl
theorem kOr_ok1  (S : Sto) (u : St → Sto → R Bool) (σ : St) : kOr (.ok false S) u σ = u σ S := rfl
theorem kOr_exc (c : String) (S : Sto) (u : St → Sto → R Bool) (σ : St) : kOr (.exc c S) u σ = .exc c S := rfl
def kN (r : R Bool)  : R Bool := match r with
  | .ok c S => .ok (!c) S
  | .exc c S => .exc c S
  | .bad => .bad
theorem kN_ok (c : Bool) (S : Sto)  : kN (.ok c S)  = .ok (!c) S := rfl
theorem kN_exc (c : String) (S : Sto)  : kN (.exc c S)  = .exc c S := rfl
def kEAn (r : R V) (u : St → Sto → R V) (σ : St) : R V := match r with
  | .ok x S => match x with | .bl true => u σ S | .bl false => .ok (.bl false) S | _ => .bad
  | .exc c S => .exc c S
  | .bad => .bad
theorem kEAn_ok0  (S : Sto) (u : St → Sto → R V) (σ : St) : kEAn (.ok (.bl true) S) u σ = u σ S := rfl
theorem kEAn_ok1  (S : Sto) (u : St → Sto → R V) (σ : St) : kEAn (.ok (.bl false) S) u σ = .ok (.bl false) S := rfl
theorem kEAn_exc (c : String) (S : Sto) (u : St → Sto → R V) (σ : St) : kEAn (.exc c S) u σ = .exc c S := rfl
def kEOr (r : R V) (u : St → Sto → R V) (σ : St) : R V := match r with
  | .ok x S => match x with | .bl true => .ok (.bl true) S | .bl false => u σ S | _ => .bad
  | .exc c S => .exc c S
  | .bad => .bad
theorem kEOr_ok0  (S : Sto) (u : St → Sto → R V) (σ : St) : kEOr (.ok (.bl true) S) u σ = .ok (.bl true) S := rfl
theorem kEOr_ok1  (S : Sto) (u : St → Sto → R V) (σ : St) : kEOr (.ok (.bl false) S) u σ = u σ S := rfl
theorem kEOr_exc (c : String) (S : Sto) (u : St → Sto → R V) (σ : St) : kEOr (.exc c S) u σ = .exc c S := rfl
def kENo (r : R V)  : R V := match r with
  | .ok x S => match x with | .bl c => .ok (.bl (!c)) S | _ => .bad
  | .exc c S => .exc c S
  | .bad => .bad
theorem kENo_ok0 (c : Bool) (S : Sto)  : kENo (.ok (.bl c) S)  = .ok (.bl (!c)) S := rfl
theorem kENo_exc (c : String) (S : Sto)  : kENo (.exc c S)  = .exc c S := rfl
def kIf (r : R Bool) (ma : St → Sto → R V) (mb : St → Sto → R V) (σ : St) : R V := match r with
  | .ok c S => if c = true then ma σ S else mb σ S
  | .exc c S => .exc c S
  | .bad => .bad
theorem kIf_ok0  (S : Sto) (ma : St → Sto → R V) (mb : St → Sto → R V) (σ : St) : kIf (.ok true S) ma mb σ = ma σ S := rfl
theorem kIf_ok1  (S : Sto) (ma : St → Sto → R V) (mb : St → Sto → R V) (σ : St) : kIf (.ok false S) ma mb σ = mb σ S := rfl
theorem kIf_exc (c : String) (S : Sto) (ma : St → Sto → R V) (mb : St → Sto → R V) (σ : St) : kIf (.exc c S) ma mb σ = .exc c S := rfl
def kCh4 (r : R V) (m' : V → V → Sto → R V) (y : V) : R V := match r with
  | .ok w S => m' y w S
  | .exc c S => .exc c S
  | .bad => .bad
theorem kCh4_ok (w : V) (S : Sto) (m' : V → V → Sto → R V) (y : V) : kCh4 (.ok w S) m' y = m' y w S := rfl
theorem kCh4_exc (c : String) (S : Sto) (m' : V → V → Sto → R V) (y : V) : kCh4 (.exc c S) m' y = .exc c S := rfl
def kCh3 (r : R V) (m' : V → V → Sto → R V) (y : V) (mc : St → Sto → R V) (σ : St) : R V := match r with
  | .ok z S => match z with | .bl true => kCh4 (mc σ S) m' y | .bl false => .ok (.bl false) S | _ => .bad
  | .exc c S => .exc c S
  | .bad => .bad
theorem kCh3_ok0  (S : Sto) (m' : V → V → Sto → R V) (y : V) (mc : St → Sto → R V) (σ : St) : kCh3 (.ok (.bl true) S) m' y mc σ = kCh4 (mc σ S) m' y := rfl
theorem kCh3_ok1  (S : Sto) (m' : V → V → Sto → R V) (y : V) (mc : St → Sto → R V) (σ : St) : kCh3 (.ok (.bl false) S) m' y mc σ = .ok (.bl false) S := rfl
theorem kCh3_exc (c : String) (S : Sto) (m' : V → V → Sto → R V) (y : V) (mc : St → Sto → R V) (σ : St) : kCh3 (.exc c S) m' y mc σ = .exc c S := rfl
def kCh2 (r : R V) (m : V → V → Sto → R V) (m' : V → V → Sto → R V) (x : V) (mc : St → Sto → R V) (σ : St) : R V := match r with
  | .ok y S => kCh3 (m x y S) m' y mc σ
  | .exc c S => .exc c S
  | .bad => .bad
theorem kCh2_ok (y : V) (S : Sto) (m : V → V → Sto → R V) (m' : V → V → Sto → R V) (x : V) (mc : St → Sto → R V) (σ : St) : kCh2 (.ok y S) m m' x mc σ = kCh3 (m x y S) m' y mc σ := rfl
theorem kCh2_exc (c : String) (S : Sto) (m : V → V → Sto → R V) (m' : V → V → Sto → R V) (x : V) (mc : St → Sto → R V) (σ : St) : kCh2 (.exc c S) m m' x mc σ = .exc c S := rfl
def kCh1 (r : R V) (m : V → V → Sto → R V) (m' : V → V → Sto → R V) (mb : St → Sto → R V) (mc : St → Sto → R V) (σ : St) : R V := match r with
  | .ok x S => kCh2 (mb σ S) m m' x mc σ
  | .exc c S => .exc c S
  | .bad => .bad
theorem kCh1_ok (x : V) (S : Sto) (m : V → V → Sto → R V) (m' : V → V → Sto → R V) (mb : St → Sto → R V) (mc : St → Sto → R V) (σ : St) : kCh1 (.ok x S) m m' mb mc σ = kCh2 (mb σ S) m m' x mc σ := rfl
theorem kCh1_exc (c : String) (S : Sto) (m : V → V → Sto → R V) (m' : V → V → Sto → R V) (mb : St → Sto → R V) (mc : St → Sto → R V) (σ : St) : kCh1 (.exc c S) m m' mb mc σ = .exc c S := rfl
def kPt (r : R V)  : R (Option Int) := match r with
  | .ok v S => match v with | .int i => .ok (some i) S | _ => .bad
  | .exc c S => .exc c S
  | .bad => .bad
theorem kPt_ok0 (i : Int) (S : Sto)  : kPt (.ok (.int i) S)  = .ok (some i) S := rfl
theorem kPt_exc (c : String) (S : Sto)  : kPt (.exc c S)  = .exc c S := rfl
def kSl3 (r : R (Option Int)) (x : V) (lo : Option Int) : R V := match r with
  | .ok hi S => cutM x lo hi S
  | .exc c S => .exc c S
  | .bad => .bad
theorem kSl3_ok (hi : Option Int) (S : Sto) (x : V) (lo : Option Int) : kSl3 (.ok hi S) x lo = cutM x lo hi S := rfl
theorem kSl3_exc (c : String) (S : Sto) (x : V) (lo : Option Int) : kSl3 (.exc c S) x lo = .exc c S := rfl
def kSl2 (r : R (Option Int)) (x : V) (mh : Option (St → Sto → R V)) (σ : St) : R V := match r with
  | .ok lo S => kSl3 (tPt mh σ S) x lo
  | .exc c S => .exc c S
  | .bad => .bad
theorem kSl2_ok (lo : Option Int) (S : Sto) (x : V) (mh : Option (St → Sto → R V)) (σ : St) : kSl2 (.ok lo S) x mh σ = kSl3 (tPt mh σ S) x lo := rfl
theorem kSl2_exc (c : String) (S : Sto) (x : V) (mh : Option (St → Sto → R V)) (σ : St) : kSl2 (.exc c S) x mh σ = .exc c S := rfl
def kSl1 (r : R V) (ml : Option (St → Sto → R V)) (mh : Option (St → Sto → R V)) (σ : St) : R V := match r with
  | .ok x S => kSl2 (tPt ml σ S) x mh σ
  | .exc c S => .exc c S
  | .bad => .bad
theorem kSl1_ok (x : V) (S : Sto) (ml : Option (St → Sto → R V)) (mh : Option (St → Sto → R V)) (σ : St) : kSl1 (.ok x S) ml mh σ = kSl2 (tPt ml σ S) x mh σ := rfl
theorem kSl1_exc (c : String) (S : Sto) (ml : Option (St → Sto → R V)) (mh : Option (St → Sto → R V)) (σ : St) : kSl1 (.exc c S) ml mh σ = .exc c S := rfl
def kCo2 (r : R (List V))  : R V := match r with
  | .ok ys S => .ok (.ref S.length) (S ++ [.lst ys])
  | .exc c S => .exc c S
  | .bad => .bad
theorem kCo2_ok (ys : List V) (S : Sto)  : kCo2 (.ok ys S)  = .ok (.ref S.length) (S ++ [.lst ys]) := rfl
theorem kCo2_exc (c : String) (S : Sto)  : kCo2 (.exc c S)  = .exc c S := rfl
def kCo1 (r : R AI) (g : Itm → St → Sto → R St) (tt : St → Sto → R Bool) (te : St → Sto → R V) (own : List Nat) (σ : St) : R V := match r with
  | .ok a S => kCo2 (compM a.2 g tt te a.1 (wipe σ own) S)
  | .exc c S => .exc c S
  | .bad => .bad
theorem kCo1_ok0 (items : List Itm) (chk : Sto → Bool) (S : Sto) (g : Itm → St → Sto → R St) (tt : St → Sto → R Bool) (te : St → Sto → R V) (own : List Nat) (σ : St) : kCo1 (.ok (items, chk) S) g tt te own σ = kCo2 (compM chk g tt te items (wipe σ own) S) := rfl
theorem kCo1_exc (c : String) (S : Sto) (g : Itm → St → Sto → R St) (tt : St → Sto → R Bool) (te : St → Sto → R V) (own : List Nat) (σ : St) : kCo1 (.exc c S) g tt te own σ = .exc c S := rfl
def kIL (r : R V)  : R AI := match r with
  | .ok v S => kIL2 (rdL v S) v S
  | .exc c S => .exc c S
  | .bad => .bad
theorem kIL_ok (v : V) (S : Sto)  : kIL (.ok v S)  = kIL2 (rdL v S) v S := rfl
theorem kIL_exc (c : String) (S : Sto)  : kIL (.exc c S)  = .exc c S := rfl
def kR1 (r : R (List V))  : R AI := match r with
  | .ok vs S => match vs with | [.int j] => rng1 j S | _ => .bad
  | .exc c S => .exc c S
  | .bad => .bad
theorem kR1_ok0 (j : Int) (S : Sto)  : kR1 (.ok [.int j] S)  = rng1 j S := rfl
theorem kR1_exc (c : String) (S : Sto)  : kR1 (.exc c S)  = .exc c S := rfl
def kR2 (r : R (List V))  : R AI := match r with
  | .ok vs S => match vs with | [.int i, .int j] => rng2 i j S | _ => .bad
  | .exc c S => .exc c S
  | .bad => .bad
theorem kR2_ok0 (i j : Int) (S : Sto)  : kR2 (.ok [.int i, .int j] S)  = rng2 i j S := rfl
theorem kR2_exc (c : String) (S : Sto)  : kR2 (.exc c S)  = .exc c S := rfl
def kZ (r : R (List V))  : R AI := match r with
  | .ok vs S => match vs with | [v, w] => kZ2 (rdL v S) (rdL w S) v w S | _ => .bad
  | .exc c S => .exc c S
  | .bad => .bad
theorem kZ_ok0 (v w : V) (S : Sto)  : kZ (.ok [v, w] S)  = kZ2 (rdL v S) (rdL w S) v w S := rfl
theorem kZ_exc (c : String) (S : Sto)  : kZ (.exc c S)  = .exc c S := rfl
def kRet (r : R V) (σ : St) : R Fl := match r with
  | .ok v S => .ok (.rt v) S
  | .exc c S => .ok (.rs c σ) S
  | .bad => .bad
theorem kRet_ok (v : V) (S : Sto) (σ : St) : kRet (.ok v S) σ = .ok (.rt v) S := rfl
theorem kRet_exc (c : String) (S : Sto) (σ : St) : kRet (.exc c S) σ = .ok (.rs c σ) S := rfl
def kEx (r : R V) (σ : St) : R Fl := match r with
  | .ok v S => .ok (.nx σ) S
  | .exc c S => .ok (.rs c σ) S
  | .bad => .bad
theorem kEx_ok (v : V) (S : Sto) (σ : St) : kEx (.ok v S) σ = .ok (.nx σ) S := rfl
theorem kEx_exc (c : String) (S : Sto) (σ : St) : kEx (.exc c S) σ = .ok (.rs c σ) S := rfl
def kSIf (r : R Bool) (a : St → Sto → R Fl) (b : St → Sto → R Fl) (σ : St) : R Fl := match r with
  | .ok k S => if k = true then a σ S else b σ S
  | .exc c S => .ok (.rs c σ) S
  | .bad => .bad
theorem kSIf_ok0  (S : Sto) (a : St → Sto → R Fl) (b : St → Sto → R Fl) (σ : St) : kSIf (.ok true S) a b σ = a σ S := rfl
theorem kSIf_ok1  (S : Sto) (a : St → Sto → R Fl) (b : St → Sto → R Fl) (σ : St) : kSIf (.ok false S) a b σ = b σ S := rfl
theorem kSIf_exc (c : String) (S : Sto) (a : St → Sto → R Fl) (b : St → Sto → R Fl) (σ : St) : kSIf (.exc c S) a b σ = .ok (.rs c σ) S := rfl
def kSet (r : R V) (i : Nat) (σ : St) : R Fl := match r with
  | .ok v S => .ok (.nx (σ.set i (some v))) S
  | .exc c S => .ok (.rs c σ) S
  | .bad => .bad
theorem kSet_ok (v : V) (S : Sto) (i : Nat) (σ : St) : kSet (.ok v S) i σ = .ok (.nx (σ.set i (some v))) S := rfl
theorem kSet_exc (c : String) (S : Sto) (i : Nat) (σ : St) : kSet (.exc c S) i σ = .ok (.rs c σ) S := rfl
def kAs2 (r : R St) (σ : St) : R Fl := match r with
  | .ok σ2 S => .ok (.nx σ2) S
  | .exc c S => .ok (.rs c σ) S
  | .bad => .bad
theorem kAs2_ok (σ2 : St) (S : Sto) (σ : St) : kAs2 (.ok σ2 S) σ = .ok (.nx σ2) S := rfl
theorem kAs2_exc (c : String) (S : Sto) (σ : St) : kAs2 (.exc c S) σ = .ok (.rs c σ) S := rfl
def kAs1 (r : R V) (t : V → St → Sto → R St) (σ : St) : R Fl := match r with
  | .ok v S => kAs2 (t v σ S) σ
  | .exc c S => .ok (.rs c σ) S
  | .bad => .bad
theorem kAs1_ok (v : V) (S : Sto) (t : V → St → Sto → R St) (σ : St) : kAs1 (.ok v S) t σ = kAs2 (t v σ S) σ := rfl
theorem kAs1_exc (c : String) (S : Sto) (t : V → St → Sto → R St) (σ : St) : kAs1 (.exc c S) t σ = .ok (.rs c σ) S := rfl
def kAg2 (r : R V) (i : Nat) (σ : St) : R Fl := match r with
  | .ok z S => .ok (.nx (σ.set i (some z))) S
  | .exc c S => .ok (.rs c σ) S
  | .bad => .bad
theorem kAg2_ok (z : V) (S : Sto) (i : Nat) (σ : St) : kAg2 (.ok z S) i σ = .ok (.nx (σ.set i (some z))) S := rfl
theorem kAg2_exc (c : String) (S : Sto) (i : Nat) (σ : St) : kAg2 (.exc c S) i σ = .ok (.rs c σ) S := rfl
def kAg1 (r : R V) (m : V → V → Sto → R V) (x : V) (i : Nat) (σ : St) : R Fl := match r with
  | .ok y S => kAg2 (m x y S) i σ
  | .exc c S => .ok (.rs c σ) S
  | .bad => .bad
theorem kAg1_ok (y : V) (S : Sto) (m : V → V → Sto → R V) (x : V) (i : Nat) (σ : St) : kAg1 (.ok y S) m x i σ = kAg2 (m x y S) i σ := rfl
theorem kAg1_exc (c : String) (S : Sto) (m : V → V → Sto → R V) (x : V) (i : Nat) (σ : St) : kAg1 (.exc c S) m x i σ = .ok (.rs c σ) S := rfl
def kG6 (r : R Unit) (σ : St) : R Fl := match r with
  | .ok u S => .ok (.nx σ) S
  | .exc c S => .ok (.rs c σ) S
  | .bad => .bad
theorem kG6_ok (u : Unit) (S : Sto) (σ : St) : kG6 (.ok u S) σ = .ok (.nx σ) S := rfl
theorem kG6_exc (c : String) (S : Sto) (σ : St) : kG6 (.exc c S) σ = .ok (.rs c σ) S := rfl
def kG5 (r : R V) (st : V → V → V → Sto → R Unit) (o : V) (i : V) (σ : St) : R Fl := match r with
  | .ok z S => kG6 (st o i z S) σ
  | .exc c S => .ok (.rs c σ) S
  | .bad => .bad
theorem kG5_ok (z : V) (S : Sto) (st : V → V → V → Sto → R Unit) (o : V) (i : V) (σ : St) : kG5 (.ok z S) st o i σ = kG6 (st o i z S) σ := rfl
theorem kG5_exc (c : String) (S : Sto) (st : V → V → V → Sto → R Unit) (o : V) (i : V) (σ : St) : kG5 (.exc c S) st o i σ = .ok (.rs c σ) S := rfl
def kG4 (r : R V) (op : V → V → Sto → R V) (st : V → V → V → Sto → R Unit) (o : V) (i : V) (x : V) (σ : St) : R Fl := match r with
  | .ok y S => kG5 (op x y S) st o i σ
  | .exc c S => .ok (.rs c σ) S
  | .bad => .bad
theorem kG4_ok (y : V) (S : Sto) (op : V → V → Sto → R V) (st : V → V → V → Sto → R Unit) (o : V) (i : V) (x : V) (σ : St) : kG4 (.ok y S) op st o i x σ = kG5 (op x y S) st o i σ := rfl
theorem kG4_exc (c : String) (S : Sto) (op : V → V → Sto → R V) (st : V → V → V → Sto → R Unit) (o : V) (i : V) (x : V) (σ : St) : kG4 (.exc c S) op st o i x σ = .ok (.rs c σ) S := rfl
def kG3 (r : R V) (me : St → Sto → R V) (op : V → V → Sto → R V) (st : V → V → V → Sto → R Unit) (o : V) (i : V) (σ : St) : R Fl := match r with
  | .ok x S => kG4 (me σ S) op st o i x σ
  | .exc c S => .ok (.rs c σ) S
  | .bad => .bad
theorem kG3_ok (x : V) (S : Sto) (me : St → Sto → R V) (op : V → V → Sto → R V) (st : V → V → V → Sto → R Unit) (o : V) (i : V) (σ : St) : kG3 (.ok x S) me op st o i σ = kG4 (me σ S) op st o i x σ := rfl
theorem kG3_exc (c : String) (S : Sto) (me : St → Sto → R V) (op : V → V → Sto → R V) (st : V → V → V → Sto → R Unit) (o : V) (i : V) (σ : St) : kG3 (.exc c S) me op st o i σ = .ok (.rs c σ) S := rfl
def kG2 (r : R V) (get : V → V → Sto → R V) (me : St → Sto → R V) (op : V → V → Sto → R V) (st : V → V → V → Sto → R Unit) (o : V) (σ : St) : R Fl := match r with
  | .ok i S => kG3 (get o i S) me op st o i σ
  | .exc c S => .ok (.rs c σ) S
  | .bad => .bad
theorem kG2_ok (i : V) (S : Sto) (get : V → V → Sto → R V) (me : St → Sto → R V) (op : V → V → Sto → R V) (st : V → V → V → Sto → R Unit) (o : V) (σ : St) : kG2 (.ok i S) get me op st o σ = kG3 (get o i S) me op st o i σ := rfl
theorem kG2_exc (c : String) (S : Sto) (get : V → V → Sto → R V) (me : St → Sto → R V) (op : V → V → Sto → R V) (st : V → V → V → Sto → R Unit) (o : V) (σ : St) : kG2 (.exc c S) get me op st o σ = .ok (.rs c σ) S := rfl
def kG1 (r : R V) (mi : St → Sto → R V) (get : V → V → Sto → R V) (me : St → Sto → R V) (op : V → V → Sto → R V) (st : V → V → V → Sto → R Unit) (σ : St) : R Fl := match r with
  | .ok o S => kG2 (mi σ S) get me op st o σ
  | .exc c S => .ok (.rs c σ) S
  | .bad => .bad
theorem kG1_ok (o : V) (S : Sto) (mi : St → Sto → R V) (get : V → V → Sto → R V) (me : St → Sto → R V) (op : V → V → Sto → R V) (st : V → V → V → Sto → R Unit) (σ : St) : kG1 (.ok o S) mi get me op st σ = kG2 (mi σ S) get me op st o σ := rfl
theorem kG1_exc (c : String) (S : Sto) (mi : St → Sto → R V) (get : V → V → Sto → R V) (me : St → Sto → R V) (op : V → V → Sto → R V) (st : V → V → V → Sto → R Unit) (σ : St) : kG1 (.exc c S) mi get me op st σ = .ok (.rs c σ) S := rfl
def kPar (r : R (List V)) (i : Nat) (j : Nat) (σ : St) : R Fl := match r with
  | .ok vs S => match vs with | [v, w] => .ok (.nx ((σ.set i (some v)).set j (some w))) S | _ => .bad
  | .exc c S => .ok (.rs c σ) S
  | .bad => .bad
theorem kPar_ok0 (v w : V) (S : Sto) (i : Nat) (j : Nat) (σ : St) : kPar (.ok [v, w] S) i j σ = .ok (.nx ((σ.set i (some v)).set j (some w))) S := rfl
theorem kPar_exc (c : String) (S : Sto) (i : Nat) (j : Nat) (σ : St) : kPar (.exc c S) i j σ = .ok (.rs c σ) S := rfl
def kFor (r : R AI) (g : Itm → St → Sto → R St) (ws : List Nat) (body : St → Sto → R Fl) (σ : St) : R Fl := match r with
  | .ok a S => forM a.2 g ws body a.1 (wipe σ ws) S
  | .exc c S => .ok (.rs c σ) S
  | .bad => .bad
theorem kFor_ok0 (items : List Itm) (chk : Sto → Bool) (S : Sto) (g : Itm → St → Sto → R St) (ws : List Nat) (body : St → Sto → R Fl) (σ : St) : kFor (.ok (items, chk) S) g ws body σ = forM chk g ws body items (wipe σ ws) S := rfl
theorem kFor_exc (c : String) (S : Sto) (g : Itm → St → Sto → R St) (ws : List Nat) (body : St → Sto → R Fl) (σ : St) : kFor (.exc c S) g ws body σ = .ok (.rs c σ) S := rfl
def kSb3 (r : R Unit) (σ : St) : R St := match r with
  | .ok u S => .ok σ S
  | .exc c S => .exc c S
  | .bad => .bad
theorem kSb3_ok (u : Unit) (S : Sto) (σ : St) : kSb3 (.ok u S) σ = .ok σ S := rfl
theorem kSb3_exc (c : String) (S : Sto) (σ : St) : kSb3 (.exc c S) σ = .exc c S := rfl
def kSb2 (r : R V) (m : V → V → V → Sto → R Unit) (o : V) (v : V) (σ : St) : R St := match r with
  | .ok i S => kSb3 (m o i v S) σ
  | .exc c S => .exc c S
  | .bad => .bad
theorem kSb2_ok (i : V) (S : Sto) (m : V → V → V → Sto → R Unit) (o : V) (v : V) (σ : St) : kSb2 (.ok i S) m o v σ = kSb3 (m o i v S) σ := rfl
theorem kSb2_exc (c : String) (S : Sto) (m : V → V → V → Sto → R Unit) (o : V) (v : V) (σ : St) : kSb2 (.exc c S) m o v σ = .exc c S := rfl
def kSb1 (r : R V) (mi : St → Sto → R V) (m : V → V → V → Sto → R Unit) (v : V) (σ : St) : R St := match r with
  | .ok o S => kSb2 (mi σ S) m o v σ
  | .exc c S => .exc c S
  | .bad => .bad
theorem kSb1_ok (o : V) (S : Sto) (mi : St → Sto → R V) (m : V → V → V → Sto → R Unit) (v : V) (σ : St) : kSb1 (.ok o S) mi m v σ = kSb2 (mi σ S) m o v σ := rfl
theorem kSb1_exc (c : String) (S : Sto) (mi : St → Sto → R V) (m : V → V → V → Sto → R Unit) (v : V) (σ : St) : kSb1 (.exc c S) mi m v σ = .exc c S := rfl
def kAg0 (o : Option (Option V)) (m : V → V → Sto → R V) (me : St → Sto → R V) (i : Nat) (σ : St) (S : Sto) : R Fl := match o with
  | some (some x) => kAg1 (me σ S) m x i σ
  | _ => .bad
theorem kAg0_ok (x : V) (m : V → V → Sto → R V) (me : St → Sto → R V) (i : Nat) (σ : St) (S : Sto) : kAg0 (some (some x)) m me i σ S = kAg1 (me σ S) m x i σ := rfl
theorem kCl_1 (x0 : V) (S : Sto) (m : List V → Sto → R V) : kCl (.ok [x0] S) 1 m = m [x0] S := rfl
theorem kLst_1 (x0 : V) (S : Sto) : kLst (.ok [x0] S) = .ok (.ref S.length) (S ++ [.lst [x0]]) := by simp [kLst]
theorem kTup_1 (x0 : V) (S : Sto) : kTup (.ok [x0] S) = .ok (.ref S.length) (S ++ [.tup [x0]]) := by simp [kTup]
theorem kCl_2 (x0 x1 : V) (S : Sto) (m : List V → Sto → R V) : kCl (.ok [x0, x1] S) 2 m = m [x0, x1] S := rfl
theorem kLst_2 (x0 x1 : V) (S : Sto) : kLst (.ok [x0, x1] S) = .ok (.ref S.length) (S ++ [.lst [x0, x1]]) := by simp [kLst]
theorem kTup_2 (x0 x1 : V) (S : Sto) : kTup (.ok [x0, x1] S) = .ok (.ref S.length) (S ++ [.tup [x0, x1]]) := by simp [kTup]
theorem kCl_3 (x0 x1 x2 : V) (S : Sto) (m : List V → Sto → R V) : kCl (.ok [x0, x1, x2] S) 3 m = m [x0, x1, x2] S := rfl
theorem kLst_3 (x0 x1 x2 : V) (S : Sto) : kLst (.ok [x0, x1, x2] S) = .ok (.ref S.length) (S ++ [.lst [x0, x1, x2]]) := by simp [kLst]
theorem kTup_3 (x0 x1 x2 : V) (S : Sto) : kTup (.ok [x0, x1, x2] S) = .ok (.ref S.length) (S ++ [.tup [x0, x1, x2]]) := by simp [kTup]
theorem kCl_4 (x0 x1 x2 x3 : V) (S : Sto) (m : List V → Sto → R V) : kCl (.ok [x0, x1, x2, x3] S) 4 m = m [x0, x1, x2, x3] S := rfl
theorem kLst_4 (x0 x1 x2 x3 : V) (S : Sto) : kLst (.ok [x0, x1, x2, x3] S) = .ok (.ref S.length) (S ++ [.lst [x0, x1, x2, x3]]) := by simp [kLst]
theorem kTup_4 (x0 x1 x2 x3 : V) (S : Sto) : kTup (.ok [x0, x1, x2, x3] S) = .ok (.ref S.length) (S ++ [.tup [x0, x1, x2, x3]]) := by simp [kTup]
theorem kCl_5 (x0 x1 x2 x3 x4 : V) (S : Sto) (m : List V → Sto → R V) : kCl (.ok [x0, x1, x2, x3, x4] S) 5 m = m [x0, x1, x2, x3, x4] S := rfl
theorem kLst_5 (x0 x1 x2 x3 x4 : V) (S : Sto) : kLst (.ok [x0, x1, x2, x3, x4] S) = .ok (.ref S.length) (S ++ [.lst [x0, x1, x2, x3, x4]]) := by simp [kLst]
theorem kTup_5 (x0 x1 x2 x3 x4 : V) (S : Sto) : kTup (.ok [x0, x1, x2, x3, x4] S) = .ok (.ref S.length) (S ++ [.tup [x0, x1, x2, x3, x4]]) := by simp [kTup]
theorem kCl_6 (x0 x1 x2 x3 x4 x5 : V) (S : Sto) (m : List V → Sto → R V) : kCl (.ok [x0, x1, x2, x3, x4, x5] S) 6 m = m [x0, x1, x2, x3, x4, x5] S := rfl
theorem kLst_6 (x0 x1 x2 x3 x4 x5 : V) (S : Sto) : kLst (.ok [x0, x1, x2, x3, x4, x5] S) = .ok (.ref S.length) (S ++ [.lst [x0, x1, x2, x3, x4, x5]]) := by simp [kLst]
theorem kTup_6 (x0 x1 x2 x3 x4 x5 : V) (S : Sto) : kTup (.ok [x0, x1, x2, x3, x4, x5] S) = .ok (.ref S.length) (S ++ [.tup [x0, x1, x2, x3, x4, x5]]) := by simp [kTup]
theorem kCl_7 (x0 x1 x2 x3 x4 x5 x6 : V) (S : Sto) (m : List V → Sto → R V) : kCl (.ok [x0, x1, x2, x3, x4, x5, x6] S) 7 m = m [x0, x1, x2, x3, x4, x5, x6] S := rfl
theorem kLst_7 (x0 x1 x2 x3 x4 x5 x6 : V) (S : Sto) : kLst (.ok [x0, x1, x2, x3, x4, x5, x6] S) = .ok (.ref S.length) (S ++ [.lst [x0, x1, x2, x3, x4, x5, x6]]) := by simp [kLst]
theorem kTup_7 (x0 x1 x2 x3 x4 x5 x6 : V) (S : Sto) : kTup (.ok [x0, x1, x2, x3, x4, x5, x6] S) = .ok (.ref S.length) (S ++ [.tup [x0, x1, x2, x3, x4, x5, x6]]) := by simp [kTup]
theorem kCl_8 (x0 x1 x2 x3 x4 x5 x6 x7 : V) (S : Sto) (m : List V → Sto → R V) : kCl (.ok [x0, x1, x2, x3, x4, x5, x6, x7] S) 8 m = m [x0, x1, x2, x3, x4, x5, x6, x7] S := rfl
theorem kLst_8 (x0 x1 x2 x3 x4 x5 x6 x7 : V) (S : Sto) : kLst (.ok [x0, x1, x2, x3, x4, x5, x6, x7] S) = .ok (.ref S.length) (S ++ [.lst [x0, x1, x2, x3, x4, x5, x6, x7]]) := by simp [kLst]
theorem kTup_8 (x0 x1 x2 x3 x4 x5 x6 x7 : V) (S : Sto) : kTup (.ok [x0, x1, x2, x3, x4, x5, x6, x7] S) = .ok (.ref S.length) (S ++ [.tup [x0, x1, x2, x3, x4, x5, x6, x7]]) := by simp [kTup]
theorem kLst_0 (S : Sto) : kLst (.ok [] S) = .ok (.ref S.length) (S ++ [.lst []]) := by simp [kLst]
section
variable (σ : St) (S : Sto)
theorem eO_eq (m : V → V → Sto → R V) (ma mb : St → Sto → R V) : eO m ma mb σ S = kO1 (ma σ S) m mb σ := by
  unfold eO kO1 kO2 R.bind
  cases ma σ S with
  | ok x S1 =>
    dsimp only
    cases mb σ S1 with
    | ok y S2 =>
      first | rfl | (cases y <;> first | rfl | (rename_i b; cases b <;> rfl))
    | exc c S9 => first | rfl | (repeat (first | rfl | split))
    | bad => first | rfl | (repeat (first | rfl | split))
  | exc c S9 => first | rfl | (repeat (first | rfl | split))
  | bad => first | rfl | (repeat (first | rfl | split))
theorem eU_eq (m : V → Sto → R V) (ma : St → Sto → R V) : eU m ma σ S = kU (ma σ S) m := by
  unfold eU kU R.bind
  cases ma σ S with
  | ok x S1 =>
    first | rfl | (cases x <;> first | rfl | (rename_i b; cases b <;> rfl))
  | exc c S9 => first | rfl | (repeat (first | rfl | split))
  | bad => first | rfl | (repeat (first | rfl | split))
theorem aNil_eq  : aNil σ S = .ok [] S := Eq.trans rfl rfl
theorem aCons_eq (ma : St → Sto → R V) (mr : St → Sto → R (List V)) : aCons ma mr σ S = kC1 (ma σ S) mr σ := by
  unfold aCons kC1 kC2 R.bind
  cases ma σ S with
  | ok x S1 =>
    dsimp only
    cases mr σ S1 with
    | ok xs S2 =>
      first | rfl | (cases xs <;> first | rfl | (rename_i b; cases b <;> rfl))
    | exc c S9 => first | rfl | (repeat (first | rfl | split))
    | bad => first | rfl | (repeat (first | rfl | split))
  | exc c S9 => first | rfl | (repeat (first | rfl | split))
  | bad => first | rfl | (repeat (first | rfl | split))
theorem eLst_eq (mr : St → Sto → R (List V)) : eLst mr σ S = kLst (mr σ S) := by
  unfold eLst kLst R.bind
  cases mr σ S with
  | ok xs S1 =>
    first | rfl | (cases xs <;> first | rfl | (rename_i b; cases b <;> rfl))
  | exc c S9 => first | rfl | (repeat (first | rfl | split))
  | bad => first | rfl | (repeat (first | rfl | split))
theorem eTup_eq (mr : St → Sto → R (List V)) : eTup mr σ S = kTup (mr σ S) := by
  unfold eTup kTup R.bind
  cases mr σ S with
  | ok xs S1 =>
    first | rfl | (cases xs <;> first | rfl | (rename_i b; cases b <;> rfl))
  | exc c S9 => first | rfl | (repeat (first | rfl | split))
  | bad => first | rfl | (repeat (first | rfl | split))
theorem eA_eq (m : List V → Sto → R V) (ma : St → Sto → R (List V)) : eA m ma σ S = kA (ma σ S) m := by
  unfold eA kA R.bind
  cases ma σ S with
  | ok xs S1 =>
    first | rfl | (cases xs <;> first | rfl | (rename_i b; cases b <;> rfl))
  | exc c S9 => first | rfl | (repeat (first | rfl | split))
  | bad => first | rfl | (repeat (first | rfl | split))
theorem eCl_eq (n : Nat) (m : List V → Sto → R V) (ma : St → Sto → R (List V)) : eCl n m ma σ S = kCl (ma σ S) n m := by
  unfold eCl kCl R.bind
  cases ma σ S with
  | ok xs S1 =>
    first | rfl | (cases xs <;> first | rfl | (rename_i b; cases b <;> rfl))
  | exc c S9 => first | rfl | (repeat (first | rfl | split))
  | bad => first | rfl | (repeat (first | rfl | split))
theorem eM0_eq (t : V → Sto → Bool) (m : V → List V → Sto → R V) (mo : St → Sto → R V) : eM0 t m mo σ S = kM0 (mo σ S) t m := by
  unfold eM0 kM0 R.bind
  cases mo σ S with
  | ok x S1 =>
    first | rfl | (cases x <;> first | rfl | (rename_i b; cases b <;> rfl))
  | exc c S9 => first | rfl | (repeat (first | rfl | split))
  | bad => first | rfl | (repeat (first | rfl | split))
theorem eM_eq (t : V → Sto → Bool) (m : V → List V → Sto → R V) (mo : St → Sto → R V) (mr : St → Sto → R (List V)) : eM t m mo mr σ S = kM1 (mo σ S) t m mr σ := by
  unfold eM kM1 kM2 R.bind
  cases mo σ S with
  | ok x S1 => dsimp only; cases mr σ S1 <;> rfl
  | _ => rfl
theorem tV_eq (m : St → Sto → R V) : tV m σ S = kTV (m σ S) := by
  unfold tV kTV R.bind
  cases m σ S with
  | ok v S1 =>
    first | rfl | (cases v <;> first | rfl | (rename_i b; cases b <;> rfl))
  | exc c S9 => first | rfl | (repeat (first | rfl | split))
  | bad => first | rfl | (repeat (first | rfl | split))
theorem tAn_eq (t u : St → Sto → R Bool) : tAn t u σ S = kAn (t σ S) u σ := by
  unfold tAn kAn R.bind
  cases t σ S with
  | ok c S1 =>
    first | rfl | (cases c <;> first | rfl | (rename_i b; cases b <;> rfl))
  | exc c S9 => first | rfl | (repeat (first | rfl | split))
  | bad => first | rfl | (repeat (first | rfl | split))
theorem tO_eq (t u : St → Sto → R Bool) : tO t u σ S = kOr (t σ S) u σ := by
  unfold tO kOr R.bind
  cases t σ S with
  | ok c S1 =>
    first | rfl | (cases c <;> first | rfl | (rename_i b; cases b <;> rfl))
  | exc c S9 => first | rfl | (repeat (first | rfl | split))
  | bad => first | rfl | (repeat (first | rfl | split))
theorem tN_eq (t : St → Sto → R Bool) : tN t σ S = kN (t σ S) := by
  unfold tN kN R.bind
  cases t σ S with
  | ok c S1 =>
    first | rfl | (cases c <;> first | rfl | (rename_i b; cases b <;> rfl))
  | exc c S9 => first | rfl | (repeat (first | rfl | split))
  | bad => first | rfl | (repeat (first | rfl | split))
theorem tYs_eq  : tYs σ S = .ok true S := Eq.trans rfl rfl
theorem eAn_eq (t u : St → Sto → R V) : eAn t u σ S = kEAn (t σ S) u σ := by
  unfold eAn kEAn R.bind
  cases t σ S with
  | ok x S1 =>
    first | rfl | (cases x <;> first | rfl | (rename_i b; cases b <;> rfl))
  | exc c S9 => first | rfl | (repeat (first | rfl | split))
  | bad => first | rfl | (repeat (first | rfl | split))
theorem eOr_eq (t u : St → Sto → R V) : eOr t u σ S = kEOr (t σ S) u σ := by
  unfold eOr kEOr R.bind
  cases t σ S with
  | ok x S1 =>
    first | rfl | (cases x <;> first | rfl | (rename_i b; cases b <;> rfl))
  | exc c S9 => first | rfl | (repeat (first | rfl | split))
  | bad => first | rfl | (repeat (first | rfl | split))
theorem eNo_eq (t : St → Sto → R V) : eNo t σ S = kENo (t σ S) := by
  unfold eNo kENo R.bind
  cases t σ S with
  | ok x S1 =>
    first | rfl | (cases x <;> first | rfl | (rename_i b; cases b <;> rfl))
  | exc c S9 => first | rfl | (repeat (first | rfl | split))
  | bad => first | rfl | (repeat (first | rfl | split))
theorem eIf_eq (t : St → Sto → R Bool) (ma mb : St → Sto → R V) : eIf t ma mb σ S = kIf (t σ S) ma mb σ := by
  unfold eIf kIf R.bind
  cases t σ S with
  | ok c S1 =>
    first | rfl | (cases c <;> first | rfl | (rename_i b; cases b <;> rfl))
  | exc c S9 => first | rfl | (repeat (first | rfl | split))
  | bad => first | rfl | (repeat (first | rfl | split))
theorem eCh_eq (m m' : V → V → Sto → R V) (ma mb mc : St → Sto → R V) : eCh m m' ma mb mc σ S = kCh1 (ma σ S) m m' mb mc σ := by
  unfold eCh kCh1 kCh2 kCh3 kCh4 R.bind
  cases ma σ S with
  | ok x S1 =>
    dsimp only
    cases mb σ S1 with
    | ok y S2 =>
      dsimp only
      cases m x y S2 with
      | ok z S3 =>
        cases z with
        | bl b => cases b with
          | true => dsimp only; cases mc σ S3 <;> rfl
          | false => rfl
        | _ => rfl
      | _ => rfl
    | _ => rfl
  | _ => rfl
theorem eSl_eq (m : St → Sto → R V) (ml mh : Option (St → Sto → R V)) : eSl m ml mh σ S = kSl1 (m σ S) ml mh σ := by
  unfold eSl kSl1 kSl2 kSl3 R.bind
  cases m σ S with
  | ok x S1 =>
    dsimp only
    cases tPt ml σ S1 with
    | ok lo S2 =>
      dsimp only
      cases tPt mh σ S2 with
      | ok hi S3 =>
        first | rfl | (cases hi <;> first | rfl | (rename_i b; cases b <;> rfl))
      | exc c S9 => first | rfl | (repeat (first | rfl | split))
      | bad => first | rfl | (repeat (first | rfl | split))
    | exc c S9 => first | rfl | (repeat (first | rfl | split))
    | bad => first | rfl | (repeat (first | rfl | split))
  | exc c S9 => first | rfl | (repeat (first | rfl | split))
  | bad => first | rfl | (repeat (first | rfl | split))
theorem tPt_none  : tPt none σ S = .ok none S := Eq.trans rfl rfl
theorem tPt_some (m : St → Sto → R V) : tPt (some m) σ S = kPt (m σ S) := by
  unfold tPt kPt R.bind
  dsimp only
  cases m σ S with
  | ok v S1 => cases v <;> rfl
  | _ => rfl
theorem eComp_eq (mi : St → Sto → R AI) (g : Itm → St → Sto → R St) (tt : St → Sto → R Bool) (te : St → Sto → R V) (own : List Nat) : eComp mi g tt te own σ S = kCo1 (mi σ S) g tt te own σ := by
  unfold eComp kCo1 kCo2 R.bind
  cases mi σ S with
  | ok a S1 => dsimp only; cases compM a.2 g tt te a.1 (wipe σ own) S1 <;> rfl
  | _ => rfl
theorem iL_eq (m : St → Sto → R V) : iL m σ S = kIL (m σ S) := by
  unfold iL kIL
  cases m σ S with
  | ok v S1 => simp only [R.bind]; cases rdL v S1 <;> rfl
  | _ => rfl
theorem iR1_eq (m : St → Sto → R (List V)) : iR1 m σ S = kR1 (m σ S) := by
  unfold iR1 kR1
  cases m σ S with
  | ok v S1 => simp only [R.bind]; rfl
  | _ => rfl
theorem iR2_eq (m : St → Sto → R (List V)) : iR2 m σ S = kR2 (m σ S) := by
  unfold iR2 kR2
  cases m σ S with
  | ok v S1 => simp only [R.bind]; rfl
  | _ => rfl
theorem iZ_eq (m : St → Sto → R (List V)) : iZ m σ S = kZ (m σ S) := by
  unfold iZ kZ
  cases m σ S with
  | ok v S1 => simp only [R.bind]; rfl
  | _ => rfl
theorem sNx_eq  : sNx σ S = .ok (.nx σ) S := Eq.trans rfl rfl
theorem sBk_eq  : sBk σ S = .ok (.bk σ) S := Eq.trans rfl rfl
theorem sCt_eq  : sCt σ S = .ok (.ct σ) S := Eq.trans rfl rfl
theorem sRetN_eq  : sRetN σ S = .ok (.rt .non) S := Eq.trans rfl rfl
theorem sRs_eq (c : String) : sRs c σ S = .ok (.rs c σ) S := Eq.trans rfl rfl
theorem sRet_eq (m : St → Sto → R V) : sRet m σ S = kRet (m σ S) σ := by
  unfold sRet kRet sE
  cases m σ S with
  | ok v S1 =>
    first | rfl | (cases v <;> first | rfl | (rename_i b; cases b <;> rfl))
  | exc c S9 => first | rfl | (repeat (first | rfl | split))
  | bad => first | rfl | (repeat (first | rfl | split))
theorem sEx_eq (m : St → Sto → R V) : sEx m σ S = kEx (m σ S) σ := by
  unfold sEx kEx sE
  cases m σ S with
  | ok v S1 =>
    first | rfl | (cases v <;> first | rfl | (rename_i b; cases b <;> rfl))
  | exc c S9 => first | rfl | (repeat (first | rfl | split))
  | bad => first | rfl | (repeat (first | rfl | split))
theorem sIf_eq (t : St → Sto → R Bool) (a b : St → Sto → R Fl) : sIf t a b σ S = kSIf (t σ S) a b σ := by
  unfold sIf kSIf sE
  cases t σ S with
  | ok k S1 =>
    first | rfl | (cases k <;> first | rfl | (rename_i b; cases b <;> rfl))
  | exc c S9 => first | rfl | (repeat (first | rfl | split))
  | bad => first | rfl | (repeat (first | rfl | split))
theorem sSet_eq (i : Nat) (m : St → Sto → R V) : sSet i m σ S = kSet (m σ S) i σ := by
  unfold sSet kSet sE
  cases m σ S with
  | ok v S1 =>
    first | rfl | (cases v <;> first | rfl | (rename_i b; cases b <;> rfl))
  | exc c S9 => first | rfl | (repeat (first | rfl | split))
  | bad => first | rfl | (repeat (first | rfl | split))
theorem sAs_eq (t : V → St → Sto → R St) (m : St → Sto → R V) : sAs t m σ S = kAs1 (m σ S) t σ := by
  unfold sAs kAs1 kAs2 sE
  cases m σ S with
  | ok v S1 =>
    dsimp only
    cases t v σ S1 with
    | ok s2 S2 =>
      first | rfl | (cases s2 <;> first | rfl | (rename_i b; cases b <;> rfl))
    | exc c S9 => first | rfl | (repeat (first | rfl | split))
    | bad => first | rfl | (repeat (first | rfl | split))
  | exc c S9 => first | rfl | (repeat (first | rfl | split))
  | bad => first | rfl | (repeat (first | rfl | split))
theorem sAug_eq (i : Nat) (m : V → V → Sto → R V) (me : St → Sto → R V) : sAug i m me σ S = kAg0 σ[i]? m me i σ S := by
  unfold sAug kAg0
  cases σ[i]? with
  | none => rfl
  | some o =>
    cases o with
    | none => rfl
    | some x =>
      dsimp only
      cases me σ S with
      | ok y S1 => simp only [sE, kAg1]; cases m x y S1 <;> rfl
      | _ => rfl
theorem sAugS_eq (mo mi : St → Sto → R V) (get : V → V → Sto → R V) (me : St → Sto → R V) (op : V → V → Sto → R V) (st : V → V → V → Sto → R Unit) : sAugS mo mi get me op st σ S = kG1 (mo σ S) mi get me op st σ := by
  unfold sAugS kG1 kG2 kG3 kG4 kG5 kG6 sE
  cases mo σ S with
  | ok o S1 =>
    dsimp only
    cases mi σ S1 with
    | ok i S2 =>
      dsimp only
      cases get o i S2 with
      | ok x S3 =>
        dsimp only
        cases me σ S3 with
        | ok y S4 =>
          dsimp only
          cases op x y S4 with
          | ok z S5 => dsimp only; cases st o i z S5 <;> rfl
          | _ => rfl
        | _ => rfl
      | _ => rfl
    | _ => rfl
  | _ => rfl
theorem sPar_eq (i j : Nat) (ma : St → Sto → R (List V)) : sPar i j ma σ S = kPar (ma σ S) i j σ := by
  unfold sPar kPar sE
  cases ma σ S with
  | ok vs S1 =>
    first | rfl | (cases vs <;> first | rfl | (rename_i b; cases b <;> rfl))
  | exc c S9 => first | rfl | (repeat (first | rfl | split))
  | bad => first | rfl | (repeat (first | rfl | split))
theorem sFor_eq (mi : St → Sto → R AI) (g : Itm → St → Sto → R St) (ws : List Nat) (body : St → Sto → R Fl) : sFor mi g ws body σ S = kFor (mi σ S) g ws body σ := by
  unfold sFor kFor sE
  cases mi σ S with
  | ok a S1 =>
    first | rfl | (cases a <;> first | rfl | (rename_i b; cases b <;> rfl))
  | exc c S9 => first | rfl | (repeat (first | rfl | split))
  | bad => first | rfl | (repeat (first | rfl | split))
theorem sWh_eq (t : St → Sto → R Bool) (ws : List Nat) (body : St → Sto → R Fl) : sWh t ws body σ S = whileM t ws body (wipe σ ws) S := Eq.trans rfl rfl
theorem sSq_eq (a b : St → Sto → R Fl) : sSq a b σ S = kSq (a σ S) b := by
  unfold sSq kSq
  cases a σ S with
  | ok f S1 => cases f <;> rfl
  | _ => rfl
theorem gSb_eq (mo mi : St → Sto → R V) (m : V → V → V → Sto → R Unit) (v : V) : gSb mo mi m v σ S = kSb1 (mo σ S) mi m v σ := by
  unfold gSb kSb1 kSb2 kSb3 R.bind
  cases mo σ S with
  | ok o S1 =>
    dsimp only
    cases mi σ S1 with
    | ok i S2 =>
      dsimp only
      cases m o i v S2 with
      | ok u S3 =>
        first | rfl | (cases u <;> first | rfl | (rename_i b; cases b <;> rfl))
      | exc c S9 => first | rfl | (repeat (first | rfl | split))
      | bad => first | rfl | (repeat (first | rfl | split))
    | exc c S9 => first | rfl | (repeat (first | rfl | split))
    | bad => first | rfl | (repeat (first | rfl | split))
  | exc c S9 => first | rfl | (repeat (first | rfl | split))
  | bad => first | rfl | (repeat (first | rfl | split))
theorem gT_eq (is : List Nat) (v : V) : gT is v σ S = kGT (rdT v S) is σ S := by unfold gT kGT; cases rdT v S <;> rfl
theorem eV_eq (i : Nat) : eV i σ S = kV σ[i]? S := by
  unfold eV kV
  cases σ[i]? with
  | none => rfl
  | some o => cases o <;> rfl
theorem eC_eq (v : V) : eC v σ S = .ok v S := Eq.trans rfl rfl
theorem gI1_one (i : Nat) (v : V) : gI1 i (.one v) σ S = .ok (σ.set i (some v)) S := Eq.trans rfl rfl
theorem gIT_many (is : List Nat) (vs : List V) : gIT is (.many vs) σ S = kGT (some vs) is σ S := Eq.trans rfl rfl
theorem gIT_one (is : List Nat) (v : V) : gIT is (.one v) σ S = gT is v σ S := Eq.trans rfl rfl
theorem alloc_eq (o : Ob) : alloc o S = .ok (.ref S.length) (S ++ [o]) := Eq.trans rfl rfl
end
theorem st_set0 (x y : Option V) (xs : List (Option V)) : (x :: xs).set 0 y = y :: xs := rfl
theorem st_setS (x y : Option V) (xs : List (Option V)) (i : Nat) : (x :: xs).set (i + 1) y = x :: xs.set i y := rfl
theorem st_get0 (x : Option V) (xs : List (Option V)) : (x :: xs)[0]? = some x := rfl
theorem st_getS (x : Option V) (xs : List (Option V)) (i : Nat) : (x :: xs)[i + 1]? = xs[i]? := by simp
theorem wipe_nil (σ : St) : wipe σ [] = σ := rfl
theorem wipe_cons (σ : St) (i : Nat) (is : List Nat) : wipe σ (i :: is) = (wipe σ is).set i none := rfl
theorem finF_nx (σ : St) (S : Sto) : finF (.ok (.nx σ) S) = .ok .non S := rfl
theorem finF_rt (v : V) (S : Sto) : finF (.ok (.rt v) S) = .ok v S := rfl
theorem finF_rs (c : String) (σ : St) (S : Sto) : finF (.ok (.rs c σ) S) = .exc c S := rfl
theorem i_T (a b : R V) : (if True then a else b) = a := if_pos trivial
theorem i_F (a b : R V) : (if False then a else b) = b := if_neg id
theorem i_t (a b : R V) : (if true = true then a else b) = a := rfl
theorem i_f (a b : R V) : (if false = true then a else b) = b := rfl
theorem modM_pos {i j : Int} (h : 0 < j) (S : Sto) : modM (.int i) (.int j) S = .ok (.int (i % j)) S := by rw [modM_int, if_pos h]
theorem fdivM_pos {i j : Int} (h : 0 < j ∧ j < 18446744073709551616) (S : Sto) : fdivM (.int i) (.int j) S = .ok (.int (i / j)) S := by rw [fdivM_int, if_pos (divC_small h.1 h.2)]
theorem powM_c {i j : Int} (h : powC i j = true) (S : Sto) : powM (.int i) (.int j) S = .ok (.int (i ^ j.toNat)) S := by rw [powM_int, if_pos h]
theorem mulM_l {i j : Int} (h : -1000000000000000000 ≤ i ∧ i ≤ 1000000000000000000) (S : Sto) : mulM (.int i) (.int j) S = .ok (.int (i * j)) S := by rw [mulM_int, if_pos (mulC_small h)]
theorem mulM_r {i j : Int} (h : -1000000000000000000 ≤ j ∧ j ≤ 1000000000000000000) (S : Sto) : mulM (.int i) (.int j) S = .ok (.int (i * j)) S := by rw [mulM_int, if_pos (mulC_small2 h)]
theorem shlM_c {i j : Int} (h : powC i j = true) (S : Sto) : shlM (.int i) (.int j) S = .ok (.int (i * 2 ^ j.toNat)) S := by
  show (if powC i j = true then _ else _) = _
  rw [if_pos h]
theorem shrM_c {i j : Int} (h : 0 ≤ j) (S : Sto) : shrM (.int i) (.int j) S = .ok (.int (i / 2 ^ j.toNat)) S := by
  show (if decide (0 ≤ j) = true then _ else _) = _
  rw [if_pos (decide_eq_true h)]
/-- all of them, for simp only [ev] -/
def evP := And.intro @kIL2_ok ( And.intro @kZ2_ok ( And.intro @kV_ok ( And.intro @kGT1 ( And.intro @kGT2 ( And.intro @kGT3 ( And.intro @kGT4 ( And.intro @kSq_nx ( And.intro @kSq_rt ( And.intro @kSq_bk ( And.intro @kSq_ct ( And.intro @kSq_rs ( And.intro @kO2_ok ( And.intro @kO2_exc ( And.intro @kO1_ok ( And.intro @kO1_exc ( And.intro @kU_ok ( And.intro @kU_exc ( And.intro @kC2_ok ( And.intro @kC2_exc ( And.intro @kC1_ok ( And.intro @kC1_exc ( And.intro @kLst_exc ( And.intro @kTup_exc ( And.intro @kA_ok ( And.intro @kA_exc ( And.intro @kCl_exc ( And.intro @kM0_ok ( And.intro @kM0_exc ( And.intro @kM2_ok ( And.intro @kM2_exc ( And.intro @kM1_ok ( And.intro @kM1_exc ( And.intro @kTV_ok0 ( And.intro @kTV_exc ( And.intro @kAn_ok0 ( And.intro @kAn_ok1 ( And.intro @kAn_exc ( And.intro @kOr_ok0 ( And.intro @kOr_ok1 ( And.intro @kOr_exc ( And.intro @kN_ok ( And.intro @kN_exc ( And.intro @kEAn_ok0 ( And.intro @kEAn_ok1 ( And.intro @kEAn_exc ( And.intro @kEOr_ok0 ( And.intro @kEOr_ok1 ( And.intro @kEOr_exc ( And.intro @kENo_ok0 ( And.intro @kENo_exc ( And.intro @kIf_ok0 ( And.intro @kIf_ok1 ( And.intro @kIf_exc ( And.intro @kCh4_ok ( And.intro @kCh4_exc ( And.intro @kCh3_ok0 ( And.intro @kCh3_ok1 ( And.intro @kCh3_exc ( And.intro @kCh2_ok ( And.intro @kCh2_exc ( And.intro @kCh1_ok ( And.intro @kCh1_exc ( And.intro @kPt_ok0 ( And.intro @kPt_exc ( And.intro @kSl3_ok ( And.intro @kSl3_exc ( And.intro @kSl2_ok ( And.intro @kSl2_exc ( And.intro @kSl1_ok ( And.intro @kSl1_exc ( And.intro @kCo2_ok ( And.intro @kCo2_exc ( And.intro @kCo1_ok0 ( And.intro @kCo1_exc ( And.intro @kIL_ok ( And.intro @kIL_exc ( And.intro @kR1_ok0 ( And.intro @kR1_exc ( And.intro @kR2_ok0 ( And.intro @kR2_exc ( And.intro @kZ_ok0 ( And.intro @kZ_exc ( And.intro @kRet_ok ( And.intro @kRet_exc ( And.intro @kEx_ok ( And.intro @kEx_exc ( And.intro @kSIf_ok0 ( And.intro @kSIf_ok1 ( And.intro @kSIf_exc ( And.intro @kSet_ok ( And.intro @kSet_exc ( And.intro @kAs2_ok ( And.intro @kAs2_exc ( And.intro @kAs1_ok ( And.intro @kAs1_exc ( And.intro @kAg2_ok ( And.intro @kAg2_exc ( And.intro @kAg1_ok ( And.intro @kAg1_exc ( And.intro @kG6_ok ( And.intro @kG6_exc ( And.intro @kG5_ok ( And.intro @kG5_exc ( And.intro @kG4_ok ( And.intro @kG4_exc ( And.intro @kG3_ok ( And.intro @kG3_exc ( And.intro @kG2_ok ( And.intro @kG2_exc ( And.intro @kG1_ok ( And.intro @kG1_exc ( And.intro @kPar_ok0 ( And.intro @kPar_exc ( And.intro @kFor_ok0 ( And.intro @kFor_exc ( And.intro @kSb3_ok ( And.intro @kSb3_exc ( And.intro @kSb2_ok ( And.intro @kSb2_exc ( And.intro @kSb1_ok ( And.intro @kSb1_exc ( And.intro @kAg0_ok ( And.intro @kCl_1 ( And.intro @kLst_1 ( And.intro @kTup_1 ( And.intro @kCl_2 ( And.intro @kLst_2 ( And.intro @kTup_2 ( And.intro @kCl_3 ( And.intro @kLst_3 ( And.intro @kTup_3 ( And.intro @kCl_4 ( And.intro @kLst_4 ( And.intro @kTup_4 ( And.intro @kCl_5 ( And.intro @kLst_5 ( And.intro @kTup_5 ( And.intro @kCl_6 ( And.intro @kLst_6 ( And.intro @kTup_6 ( And.intro @kCl_7 ( And.intro @kLst_7 ( And.intro @kTup_7 ( And.intro @kCl_8 ( And.intro @kLst_8 ( And.intro @kTup_8 ( And.intro @kLst_0 ( And.intro @eO_eq ( And.intro @eU_eq ( And.intro @aNil_eq ( And.intro @aCons_eq ( And.intro @eLst_eq ( And.intro @eTup_eq ( And.intro @eA_eq ( And.intro @eCl_eq ( And.intro @eM0_eq ( And.intro @eM_eq ( And.intro @tV_eq ( And.intro @tAn_eq ( And.intro @tO_eq ( And.intro @tN_eq ( And.intro @tYs_eq ( And.intro @eAn_eq ( And.intro @eOr_eq ( And.intro @eNo_eq ( And.intro @eIf_eq ( And.intro @eCh_eq ( And.intro @eSl_eq ( And.intro @tPt_none ( And.intro @tPt_some ( And.intro @eComp_eq ( And.intro @iL_eq ( And.intro @iR1_eq ( And.intro @iR2_eq ( And.intro @iZ_eq ( And.intro @sNx_eq ( And.intro @sBk_eq ( And.intro @sCt_eq ( And.intro @sRetN_eq ( And.intro @sRs_eq ( And.intro @sRet_eq ( And.intro @sEx_eq ( And.intro @sIf_eq ( And.intro @sSet_eq ( And.intro @sAs_eq ( And.intro @sAug_eq ( And.intro @sAugS_eq ( And.intro @sPar_eq ( And.intro @sFor_eq ( And.intro @sWh_eq ( And.intro @sSq_eq ( And.intro @gSb_eq ( And.intro @gT_eq ( And.intro @eV_eq ( And.intro @eC_eq ( And.intro @gI1_one ( And.intro @gIT_many ( And.intro @gIT_one ( And.intro @alloc_eq ( And.intro @st_set0 ( And.intro @st_setS ( And.intro @st_get0 ( And.intro @st_getS ( And.intro @wipe_nil ( And.intro @wipe_cons ( And.intro @finF_nx ( And.intro @finF_rt ( And.intro @finF_rs ( And.intro @i_T ( And.intro @i_F ( And.intro @i_t ( And.intro @i_f ( And.intro @addM_int ( And.intro @addM_ref ( And.intro @addM_str ( And.intro @subM_int ( And.intro @mulM_l ( And.intro @mulM_r ( And.intro @mulM_ref ( And.intro @fdivM_pos ( And.intro @modM_pos ( And.intro @powM_c ( And.intro @shlM_c ( And.intro @shrM_c ( And.intro @andM_int ( And.intro @xorM_int ( And.intro @negM_int ( And.intro @ltM_int ( And.intro @leM_int ( And.intro @gtM_int ( And.intro @geM_int ( And.intro @eqM_int ( And.intro @neM_int ( And.intro @ixM_ref ( And.intro @ixM_str ( And.intro @ipAdd_int ( And.intro @ipSub_int ( And.intro @Bool.not_true ( @Bool.not_false)))))))))))))))))))))))))))))))))))))))))))))))))))))))))))))))))))))))))))))))))))))))))))))))))))))))))))))))))))))))))))))))))))))))))))))))))))))))))))))))))))))))))))))))))))))))))))))))))))))))))))))))))))))))))))))))))))))))))))))))
theorem ev : type_of% evP := evP
end Fx
/-! Fx: working with the readings: the store's growth, values at places, loops, comprehensions. -/
namespace Fx
open PySem L2
theorem lim_def : lim = 16777216 := rfl
/-! ### the store grows; what stands at the names in M may change -/
structure Up (M : List Nat) (S S' : Sto) : Prop where
  len : S.length ≤ S'.length
  at' : ∀ (a : Nat) (o : Ob), a ∉ M → S[a]? = some o → S'[a]? = some o
theorem Up.refl (M : List Nat) (S : Sto) : Up M S S := ⟨Nat.le_refl _, fun _ _ _ h => h⟩
theorem Up.trans {M : List Nat} {S S1 S2 : Sto} (a : Up M S S1) (b : Up M S1 S2) : Up M S S2 := ⟨Nat.le_trans a.len b.len, fun x o h e => b.at' x o h (a.at' x o h e)⟩
theorem Up.mono {M M' : List Nat} {S S' : Sto} (h : Up M S S') (hs : ∀ x ∈ M, x ∈ M') : Up M' S S' := ⟨h.len, fun a o n e => h.at' a o (fun m => n (hs a m)) e⟩
theorem Up.any {M : List Nat} {S S' : Sto} (h : Up [] S S') : Up M S S' := h.mono fun _ hx => nomatch hx
theorem Up.app (M : List Nat) (S T : Sto) : Up M S (S ++ T) := ⟨by simp, fun a o _ e => by rw [List.getElem?_append_left (List.getElem?_eq_some_iff.mp e).1]; exact e⟩
theorem Up.get {S S' : Sto} (h : Up [] S S') {a : Nat} {o : Ob} (e : S[a]? = some o) : S'[a]? = some o := h.at' a o (fun h => nomatch h) e
theorem Up.get1 {n : Nat} {S S' : Sto} (h : Up [n] S S') {a : Nat} {o : Ob} (e : S[a]? = some o) (hn : a ≠ n) : S'[a]? = some o := h.at' a o (by simpa using hn) e
theorem slt {S : Sto} {a : Nat} {o : Ob} (e : S[a]? = some o) : a < S.length := (List.getElem?_eq_some_iff.mp e).1
theorem snew (S : Sto) (o : Ob) : (S ++ [o])[S.length]? = some o := by simp
/-- a name that is new since S -/
theorem Up.setNew {M : List Nat} {S S' : Sto} (h : Up M S S') {n : Nat} (hn : S.length ≤ n) (o : Ob) : Up M S (S'.set n o) :=
  ⟨by simpa using h.len, fun a u ha e => by
    have := slt e
    rw [List.getElem?_set_ne (by omega)]; exact h.at' a u ha e⟩
theorem Up.set {M : List Nat} {S : Sto} {n : Nat} (hn : n ∈ M) (o : Ob) : Up M S (S.set n o) :=
  ⟨by simp, fun a u ha e => by
    rw [List.getElem?_set_ne (fun z => ha (by rw [← z]; exact hn))]; exact e⟩
theorem sset_same {S : Sto} {n : Nat} {o o' : Ob} (h : S[n]? = some o') : (S.set n o)[n]? = some o := List.getElem?_set_self (slt h)
theorem sset_ne {S : Sto} {n m : Nat} {o : Ob} (h : m ≠ n) : (S.set n o)[m]? = S[m]? := List.getElem?_set_ne (Ne.symm h)
/-! ### lists -/
theorem rdL_lst {S : Sto} {a : Nat} {xs : List V} (h : S[a]? = some (.lst xs)) : rdL (.ref a) S = some xs := by simp [rdL, h]
theorem rdL_frl {S : Sto} {a : Nat} {xs : List V} (h : S[a]? = some (.frl xs)) : rdL (.ref a) S = some xs := by simp [rdL, h]
theorem rdLT_of {S : Sto} {x : V} {xs : List V} (h : rdL x S = some xs) : rdLT x S = some xs := by
  cases x with
  | ref a =>
    unfold rdL at h; unfold rdLT
    cases e : S[a]? with
    | none => simp [e] at h
    | some o => cases o <;> simp_all
  | _ => cases h
theorem rdLT_lst {S : Sto} {a : Nat} {xs : List V} (h : S[a]? = some (.lst xs)) : rdLT (.ref a) S = some xs := rdLT_of (rdL_lst h)
theorem rdLT_tup {S : Sto} {a : Nat} {xs : List V} (h : S[a]? = some (.tup xs)) : rdLT (.ref a) S = some xs := by simp [rdLT, h]
theorem rdT_tup {S : Sto} {a : Nat} {xs : List V} (h : S[a]? = some (.tup xs)) : rdT (.ref a) S = some xs := by simp [rdT, h]
theorem rdL_up {S S' : Sto} (h : Up [] S S') {x : V} {xs : List V} (e : rdL x S = some xs) : rdL x S' = some xs := by
  cases x with
  | ref a =>
    unfold rdL at e ⊢
    cases q : S[a]? with
    | none => simp [q] at e
    | some o => simp only [q] at e; simp only [h.get q]; exact e
  | _ => cases e
theorem rdI_of {S : Sto} {x : V} {ns : List Int} (h : rdL x S = some (ns.map V.int)) : rdI x S = some ns := by simp [rdI, h]
theorem isLs_of {S : Sto} {x : V} {xs : List V} (h : rdL x S = some xs) : isLs x S = true := by simp [isLs, h]
theorem appM_at {S : Sto} {n : Nat} {xs : List V} {y : V} (h : S[n]? = some (.lst xs)) (hl : xs.length < 16777216) : appM (.ref n) [y] S = .ok .non (S.set n (.lst (xs ++ [y]))) := by
  simp only [appM, chL, h, lim, hl, if_true]
theorem clearM_at {S : Sto} {n : Nat} {xs : List V} (h : S[n]? = some (.lst xs)) : clearM (.ref n) [] S = .ok .non (S.set n (.lst [])) := by
  simp only [clearM, chL, h]
theorem reverseM_at {S : Sto} {n : Nat} {xs : List V} (h : S[n]? = some (.lst xs)) : reverseM (.ref n) [] S = .ok .non (S.set n (.lst xs.reverse)) := by
  simp only [reverseM, chL, h]
theorem setL_at {S : Sto} {n : Nat} {xs : List V} {k : Nat} {v : V} (h : S[n]? = some (.lst xs)) (hk : k < xs.length) : setL (.ref n) (.int k) v S = .ok () (S.set n (.lst (xs.set k v))) := by
  simp only [setL, h, ixN, if_pos (show (0 : Int) ≤ k by omega), if_pos (show (k : Int) < xs.length by omega), Int.toNat_natCast]
theorem getL_at {S : Sto} {x : V} {xs : List V} {k : Nat} {v : V} (h : rdL x S = some xs) (hk : xs[k]? = some v) : getL x (.int k) S = .ok v S := by
  simp only [getL, h, atI_nat hk]
theorem ixQ_at {S : Sto} {x : V} {xs : List V} {k : Nat} {v : V} (h : rdLT x S = some xs) (hk : xs[k]? = some v) : ixQ x (.int k) S = .ok v S := by
  simp only [ixQ, h, atI_nat hk]
theorem ixI_at {S : Sto} {x : V} {ns : List Int} {k : Nat} {v : Int} (h : rdLT x S = some (ns.map V.int)) (hk : ns[k]? = some v) : ixQ x (.int k) S = .ok (.int v) S := ixQ_at h (by simp [hk])
/-- by an int that is a place -/
theorem ixQ_int {S : Sto} {x : V} {xs : List V} {i : Int} {v : V} (h : rdLT x S = some xs) (h0 : 0 ≤ i) (hk : xs[i.toNat]? = some v) : ixQ x (.int i) S = .ok v S := by
  have := ixQ_at (k := i.toNat) h hk
  rwa [Int.toNat_of_nonneg h0] at this
theorem lenM_at {S : Sto} {a : Nat} {xs : List V} (h : rdLT (.ref a) S = some xs) : lenM [.ref a] S = .ok (.int xs.length) S := by simp only [lenM, h]
theorem listM_at {S : Sto} {a : Nat} {xs : List V} (h : rdLT (.ref a) S = some xs) : listM [.ref a] S = .ok (.ref S.length) (S ++ [.lst xs]) := by simp only [listM, h, Fx.alloc]
theorem sumM_at {S : Sto} {x : V} {ns : List Int} (h : rdL x S = some (ns.map V.int)) : sumM [x] S = .ok (.int ns.sum) S := by simp only [sumM, rdI_of h]
theorem sortM_at {S : Sto} {x : V} {ns : List Int} (h : rdL x S = some (ns.map V.int)) : sortM [x] S = .ok (.ref S.length) (S ++ [.lst ((upS ns).map V.int)]) := by simp only [sortM, rdI_of h, Fx.alloc]
theorem sortDM_at {S : Sto} {x : V} {ns : List Int} (h : rdL x S = some (ns.map V.int)) : sortDM [x] S = .ok (.ref S.length) (S ++ [.lst ((dnS ns).map V.int)]) := by simp only [sortDM, rdI_of h, Fx.alloc]
theorem isi_list {S : Sto} {a : Nat} {xs : List V} (h : S[a]? = some (.lst xs)) : isiM [.ref a, .ty "list"] S = .ok (.bl true) S := by
  simp only [isiM, tyN, h, show isB "list" "list" = some true from rfl]
theorem isi_int {S : Sto} (n : Int) : isiM [.int n, .ty "int"] S = .ok (.bl true) S := by
  simp only [isiM, tyN, show isB "int" "int" = some true from rfl]
theorem isi_nbool {S : Sto} (n : Int) : isiM [.int n, .ty "bool"] S = .ok (.bl false) S := by
  simp only [isiM, tyN, show isB "int" "bool" = some false from rfl]
theorem cutV_take (xs : List V) (k : Nat) : cutV xs none (some (k : Int)) = xs.take k := by
  unfold cutV
  rw [HT.sIx_none, HT.sIx_nat, List.drop_zero, Nat.sub_zero]
  by_cases h : k ≤ xs.length
  · rw [Nat.min_eq_left h]
  · rw [Nat.min_eq_right (by omega), List.take_length, List.take_of_length_le (by omega)]
theorem cutV_drop (xs : List V) (k : Nat) : cutV xs (some (k : Int)) none = xs.drop k := by
  unfold cutV
  rw [HT.sIx_none, HT.sIx_nat]
  by_cases h : k ≤ xs.length
  · rw [Nat.min_eq_left h, List.take_of_length_le (by simp)]
  · rw [Nat.min_eq_right (by omega), Nat.sub_self, List.take_zero, List.drop_of_length_le (by omega)]
theorem cutV_mid (xs : List V) (i j : Nat) : cutV xs (some (i : Int)) (some (j : Int)) = (xs.drop i).take (j - i) := by
  unfold cutV
  rw [HT.sIx_nat, HT.sIx_nat]
  by_cases h : i ≤ xs.length
  · rw [Nat.min_eq_left h]
    by_cases h2 : j ≤ xs.length
    · rw [Nat.min_eq_left h2]
    · rw [Nat.min_eq_right (by omega), List.take_of_length_le (by simp), List.take_of_length_le (by simp; omega)]
  · rw [Nat.min_eq_right (by omega : xs.length ≤ i), List.drop_of_length_le (Nat.le_refl _), List.drop_of_length_le (by omega)]
    simp
theorem cutM_drop {S : Sto} {x : V} {xs : List V} {k : Int} (k0 : 0 ≤ k) (h : rdL x S = some xs) : cutM x (some k) none S = .ok (.ref S.length) (S ++ [.lst (xs.drop k.toNat)]) := by
  obtain ⟨k, rfl⟩ := Int.eq_ofNat_of_zero_le k0
  rw [Int.toNat_natCast]
  cases x with
  | ref a => simp only [cutM, h, cutV_drop, Fx.alloc]
  | _ => cases h
theorem cutM_mid {S : Sto} {x : V} {xs : List V} {i j : Int} (i0 : 0 ≤ i) (j0 : 0 ≤ j) (h : rdL x S = some xs) : cutM x (some i) (some j) S = .ok (.ref S.length) (S ++ [.lst ((xs.drop i.toNat).take (j.toNat - i.toNat))]) := by
  obtain ⟨i, rfl⟩ := Int.eq_ofNat_of_zero_le i0
  obtain ⟨j, rfl⟩ := Int.eq_ofNat_of_zero_le j0
  rw [Int.toNat_natCast, Int.toNat_natCast]
  cases x with
  | ref a => simp only [cutM, h, cutV_mid, Fx.alloc]
  | _ => cases h
theorem cutM_take {S : Sto} {x : V} {xs : List V} {k : Int} (k0 : 0 ≤ k) (h : rdL x S = some xs) : cutM x none (some k) S = .ok (.ref S.length) (S ++ [.lst (xs.take k.toNat)]) := by
  obtain ⟨k, rfl⟩ := Int.eq_ofNat_of_zero_le k0
  rw [Int.toNat_natCast]
  cases x with
  | ref a => simp only [cutM, h, cutV_take, Fx.alloc]
  | _ => cases h
/-! ### == of lists of ints -/
theorem toD_ints {S : Sto} : ∀ (ns : List Int) (n : Nat), (ns.map V.int).mapM (toD (n + 1) S) = some (ns.map PyData.int)
  | [], n => rfl
  | x :: ns, n => by
    rw [List.map_cons, List.mapM_cons, toD_ints ns n]; rfl
theorem layA_ints (ns : List Int) : PyData.canLayAll0 (ns.map PyData.int) = true := by
  induction ns with
  | nil => rfl
  | cons n ns ih => rw [List.map_cons, PyData.canLayAll0, ih]; rfl
theorem depA_ints (ns : List Int) : PyData.depthAll (ns.map PyData.int) ≤ 1 := by
  induction ns with
  | nil => simp [PyData.depthAll]
  | cons n ns ih => simp only [List.map_cons, PyData.depthAll, PyData.depth]; omega
theorem shaped_ints (ns : List Int) : SeqAt.shaped (.list (ns.map PyData.int)) = true := by
  unfold SeqAt.shaped
  rw [PyData.canLay0, layA_ints, PyData.depth]
  have := depA_ints ns
  simp; omega
theorem eqv_ints : ∀ xs ys : List Int, PyData.eqvAll (xs.map PyData.int) (ys.map PyData.int) = decide (xs = ys)
  | [], [] => rfl
  | [], _ :: _ => by simp [PyData.eqvAll]
  | _ :: _, [] => by simp [PyData.eqvAll]
  | x :: xs, y :: ys => by
    rw [List.map_cons, List.map_cons, PyData.eqvAll, eqv_ints xs ys, PyData.eqv, Bool.beq_eq_decide_eq]
    by_cases h : x = y <;> simp [h]
theorem toD_isI {S : Sto} {x : V} {ns : List Int} (h : rdL x S = some (ns.map V.int)) (n : Nat) : toD (n + 2) S x = some (.list (ns.map PyData.int)) := by
  cases x with
  | ref a =>
    unfold rdL at h
    cases q : S[a]? with
    | none => simp [q] at h
    | some o =>
      cases o with
      | lst xs => simp only [q, Option.some.injEq] at h; subst h; rw [toD]; simp only [q]; rw [toD_ints]; rfl
      | frl xs => simp only [q, Option.some.injEq] at h; subst h; rw [toD]; simp only [q]; rw [toD_ints]; rfl
      | _ => simp [q] at h
  | _ => cases h
theorem eqB_ints {S : Sto} {x y : V} {xs ys : List Int} (h : rdL x S = some (xs.map V.int)) (h' : rdL y S = some (ys.map V.int)) : eqB x y S = some (decide (xs = ys)) := by
  unfold eqB
  rw [toD_isI h, toD_isI h']
  simp only [shaped_ints, and_self, if_true, PyData.eqv, eqv_ints]
theorem eqM_ints {S : Sto} {x y : V} {xs ys : List Int} (h : rdL x S = some (xs.map V.int)) (h' : rdL y S = some (ys.map V.int)) : eqM x y S = .ok (.bl (decide (xs = ys))) S := by
  unfold eqM; rw [eqB_ints h h']
theorem neM_ints {S : Sto} {x y : V} {xs ys : List Int} (h : rdL x S = some (xs.map V.int)) (h' : rdL y S = some (ys.map V.int)) : neM x y S = .ok (.bl (!decide (xs = ys))) S := by
  unfold neM; rw [eqB_ints h h']
/-! ### checks of what is walked -/
theorem chkL_of {S : Sto} {v : V} {xs : List V} (h : rdL v S = some xs) : chkL v xs S = true := by simp [chkL, h]
theorem chkL_up {S0 : Sto} {v : V} {xs : List V} (h : rdL v S0 = some xs) : ∀ S, Up [] S0 S → chkL v xs S = true := fun S hS => chkL_of (rdL_up hS h)
theorem chkZ_of {S : Sto} {v w : V} {xs ys : List V} (h : rdL v S = some xs) (h' : rdL w S = some ys) : chkZ v w xs ys S = true := by simp [chkZ, h, h']
theorem chkZ_up {S0 : Sto} {v w : V} {xs ys : List V} (h : rdL v S0 = some xs) (h' : rdL w S0 = some ys) : ∀ S, Up [] S0 S → chkZ v w xs ys S = true := fun S hS => chkZ_of (rdL_up hS h) (rdL_up hS h')
theorem chkY_up {M : List Nat} {S0 : Sto} : ∀ S, Up M S0 S → chkY S = true := fun _ _ => rfl
abbrev oneI (n : Int) : Itm := .one (.int n)
abbrev oneR (lo : Int) (i : Nat) : Itm := .one (.int (lo + i))
theorem items_int (ns : List Int) : (ns.map V.int).map Itm.one = ns.map oneI := by rw [List.map_map]; rfl
theorem items_rng (lo : Int) (n : Nat) : rngI lo n = (List.range n).map (oneR lo) := rfl
theorem rng_at {n i x : Nat} (h : (List.range n)[i]? = some x) : i < n ∧ i = x := by
  rw [List.getElem?_eq_some_iff] at h
  obtain ⟨h1, h2⟩ := h
  simp at h1 h2
  exact ⟨h1, h2⟩
theorem getI_D {xs : List Int} {i : Nat} (h : i < xs.length) : (xs.map V.int)[i]? = some (.int (xs.getD i 0)) := by
  rw [List.getElem?_map, List.getD_eq_getElem?_getD, List.getElem?_eq_getElem h]; rfl
theorem items_zip (xs ys : List Int) : zipI (xs.map V.int) (ys.map V.int) = (xs.zip ys).map fun p => .many [.int p.1, .int p.2] := by
  unfold zipI
  rw [List.zip_map, List.map_map]; rfl
/-! ### what an outcome is wanted to be -/
def Re {α : Type} (r : R α) (Q : α → Sto → Prop) : Prop := match r with
  | .ok a S => Q a S
  | _ => False
theorem Re_ok {α : Type} (a : α) (S : Sto) (Q : α → Sto → Prop) : Re (.ok a S) Q = Q a S := rfl
theorem Re.ex {α : Type} {r : R α} {Q : α → Sto → Prop} (h : Re r Q) : ∃ a S, r = .ok a S ∧ Q a S := by
  cases r with
  | ok a S => exact ⟨a, S, rfl, h⟩
  | exc c S => exact h.elim
  | bad => exact h.elim
theorem Re.of {α : Type} {r : R α} {Q : α → Sto → Prop} {a : α} {S : Sto} (e : r = .ok a S) (h : Q a S) : Re r Q := by rw [e]; exact h
/-- a turn that goes on -/
def Tn (r : R Fl) (Q : St → Sto → Prop) : Prop := match r with
  | .ok (.nx σ) S => Q σ S
  | .ok (.ct σ) S => Q σ S
  | _ => False
theorem Tn_nx (σ : St) (S : Sto) (Q : St → Sto → Prop) : Tn (.ok (.nx σ) S) Q = Q σ S := rfl
theorem Tn_ct (σ : St) (S : Sto) (Q : St → Sto → Prop) : Tn (.ok (.ct σ) S) Q = Q σ S := rfl
theorem Tn.ex {r : R Fl} {Q : St → Sto → Prop} (h : Tn r Q) : ∃ σ S, (r = .ok (.nx σ) S ∨ r = .ok (.ct σ) S) ∧ Q σ S := by
  cases r with
  | ok f S =>
    cases f with
    | nx σ => exact ⟨σ, S, .inl rfl, h⟩
    | ct σ => exact ⟨σ, S, .inr rfl, h⟩
    | _ => exact h.elim
  | exc c S => exact h.elim
  | bad => exact h.elim
/-! ### comprehensions -/
/-- with a test, nothing new in the store -/
theorem compM_flt {α : Type} {chk : Sto → Bool} {tg : Itm → St → Sto → R St} {tt : St → Sto → R Bool} {te : St → Sto → R V} {σ : St} {S : Sto} (g : α → Itm) (p : α → Bool) (f : α → V) (hc : chk S = true) : ∀ {xs : List α}, (∀ x ∈ xs, ∃ σ1, tg (g x) σ S = .ok σ1 S ∧ tt σ1 S = .ok (p x) S ∧ (p x = true → te σ1 S = .ok (f x) S)) →
    compM chk tg tt te (xs.map g) σ S = .ok ((xs.filter p).map f) S
  | [], _ => by simp [compM, hc]
  | it :: items, h => by
    obtain ⟨σ1, h1, h2, h3⟩ := h it List.mem_cons_self
    have ih := compM_flt g p f hc (xs := items) fun x hx => h x (List.mem_cons_of_mem _ hx)
    rw [List.map_cons, compM, if_pos hc, h1]
    simp only [R.nox_ok, R.bind_ok, h2]
    cases hp : p it with
    | true =>
      simp only [h3 hp, R.nox_ok, R.bind_ok, ih, if_true]
      rw [List.filter_cons, if_pos hp, List.map_cons]
    | false =>
      simp only [ih, Bool.false_eq_true, if_false]
      rw [List.filter_cons, if_neg (by simp [hp])]
/-- without a test: values that may lean on the store -/
theorem compM_map {α : Type} {M : List Nat} {S0 : Sto} {chk : Sto → Bool} {tg : Itm → St → Sto → R St} {te : St → Sto → R V} {σ : St} (g : α → Itm) (P : Sto → α → V → Prop) (mono : ∀ S S' it v, Up M S S' → P S it v → P S' it v) (hc : ∀ S, Up M S0 S → chk S = true) :
    ∀ {xs : List α}, (∀ x ∈ xs, ∀ S, Up M S0 S → ∃ σ1, tg (g x) σ S = .ok σ1 S ∧ Re (te σ1 S) fun v S' => Up M S S' ∧ P S' x v) →
    ∀ S, Up M S0 S → ∃ vs S', compM chk tg tYs te (xs.map g) σ S = .ok vs S' ∧ Up M S S' ∧ Paired (P S') xs vs
  | [], _, S, h0 => ⟨[], S, by simp [compM, hc S h0], Up.refl M S, .nil⟩
  | it :: items, h, S, h0 => by
    obtain ⟨σ1, h1, h2⟩ := h it List.mem_cons_self S h0
    obtain ⟨v, S1, h3, h4, h5⟩ := h2.ex
    obtain ⟨vs, S2, e, p, q⟩ := compM_map g P mono hc (xs := items) (fun x hx => h x (List.mem_cons_of_mem _ hx)) S1 (h0.trans h4)
    refine ⟨v :: vs, S2, ?_, h4.trans p, .cons (mono _ _ _ _ p h5) q⟩
    rw [List.map_cons, compM, if_pos (hc S h0), h1]
    simp only [R.nox_ok, R.bind_ok, tYs_eq, if_true, h3, e]
/-- values that don't lean on the store -/
theorem compM_val {α : Type} {M : List Nat} {S0 : Sto} {chk : Sto → Bool} {tg : Itm → St → Sto → R St} {te : St → Sto → R V} {σ : St} (g : α → Itm) (f : α → V) (hc : ∀ S, Up M S0 S → chk S = true) {xs : List α}
    (h : ∀ x ∈ xs, ∀ S, Up M S0 S → ∃ σ1, tg (g x) σ S = .ok σ1 S ∧ Re (te σ1 S) fun v S' => Up M S S' ∧ v = f x) (S : Sto) (h0 : Up M S0 S) : ∃ S', compM chk tg tYs te (xs.map g) σ S = .ok (xs.map f) S' ∧ Up M S S' := by
  obtain ⟨vs, S', e, p, q⟩ := compM_map g (fun _ it v => v = f it) (fun _ _ _ _ _ h => h) hc (h) S h0
  refine ⟨S', ?_, p⟩
  rw [e]
  congr 1
  clear e h
  induction q with
  | nil => rfl
  | cons r _ ih => rw [List.map_cons, ← r, ih]
/-- .. and the store stays -/
theorem compM_pure {α : Type} {chk : Sto → Bool} {tg : Itm → St → Sto → R St} {te : St → Sto → R V} {σ : St} {S : Sto} (g : α → Itm) (f : α → V) (hc : chk S = true) : ∀ {xs : List α},
    (∀ x ∈ xs, ∃ σ1, tg (g x) σ S = .ok σ1 S ∧ te σ1 S = .ok (f x) S) → compM chk tg tYs te (xs.map g) σ S = .ok (xs.map f) S
  | [], _ => by simp [compM, hc]
  | it :: items, h => by
    obtain ⟨σ1, h1, h3⟩ := h it List.mem_cons_self
    have ih := compM_pure g f hc (xs := items) fun x hx => h x (List.mem_cons_of_mem _ hx)
    rw [List.map_cons, compM, if_pos hc, h1]
    simp only [R.nox_ok, R.bind_ok, tYs_eq, if_true, h3, ih]; rfl
/-! ### loops -/
/-- a loop by its invariant -/
theorem forM_inv {chk : Sto → Bool} {tg : Itm → St → Sto → R St} {ws : List Nat} {body : St → Sto → R Fl} {items : List Itm} (I : Nat → St → Sto → Prop) (hc : ∀ i σ S, I i σ S → chk S = true)
    (hs : ∀ i it σ S, items[i]? = some it → I i σ S → ∃ σ1, tg it σ S = .ok σ1 S ∧ Tn (body σ1 S) fun σ2 S2 => I (i + 1) (wipe σ2 ws) S2) {σ : St} {S : Sto} (h0 : I 0 σ S) :
    ∃ σ' S', forM chk tg ws body items σ S = .ok (.nx σ') S' ∧ I items.length σ' S' := by
  have go : ∀ (k i : Nat) (σ : St) (S : Sto), items.length = i + k → I i σ S → ∃ σ' S', forM chk tg ws body (items.drop i) σ S = .ok (.nx σ') S' ∧ I items.length σ' S' := by
    intro k
    induction k with
    | zero =>
      intro i σ S hk hI
      have : i = items.length := by omega
      subst this
      rw [List.drop_length]
      exact ⟨σ, S, by simp [forM, hc _ _ _ hI], hI⟩
    | succ k ih =>
      intro i σ S hk hI
      have hi : i < items.length := by omega
      rw [List.drop_eq_getElem_cons hi, forM, if_pos (hc _ _ _ hI)]
      obtain ⟨σ1, h1, hT⟩ := hs i items[i] σ S (List.getElem?_eq_getElem hi) hI
      obtain ⟨σ2, S2, h2, h3⟩ := hT.ex
      rw [h1, sE_ok]
      rcases h2 with h2 | h2
      · rw [h2]; exact ih (i + 1) _ _ (by omega) h3
      · rw [h2]; exact ih (i + 1) _ _ (by omega) h3
  have := go items.length 0 σ S (by omega) h0
  rwa [List.drop_zero] at this
/-- a loop whose state is told by what is gone through -/
theorem forM_at {α : Type} {chk : Sto → Bool} {tg : Itm → St → Sto → R St} {ws : List Nat} {body : St → Sto → R Fl} {xs : List α} (g : α → Itm) (st : Nat → St) (I : Nat → Sto → Prop) (hc : ∀ i S, I i S → chk S = true)
    (hs : ∀ i x S, xs[i]? = some x → I i S → ∃ σ1, tg (g x) (st i) S = .ok σ1 S ∧ Tn (body σ1 S) fun σ2 S2 => wipe σ2 ws = st (i + 1) ∧ I (i + 1) S2) {S : Sto} (h0 : I 0 S) :
    ∃ S', forM chk tg ws body (xs.map g) (st 0) S = .ok (.nx (st xs.length)) S' ∧ I xs.length S' := by
  obtain ⟨σ', S', e, h⟩ := forM_inv (chk := chk) (tg := tg) (ws := ws) (body := body) (items := xs.map g) (fun i σ S => σ = st i ∧ I i S) (fun i σ S h => hc i S h.2) (fun i it σ S hi h => by
    obtain ⟨rfl, h⟩ := h
    rw [List.getElem?_map] at hi
    cases hx : xs[i]? with
    | none => rw [hx] at hi; cases hi
    | some x =>
      rw [hx] at hi
      cases hi
      exact hs i x S hx h) ⟨rfl, h0⟩
  rw [List.length_map] at h
  obtain ⟨rfl, h⟩ := h
  exact ⟨S', e, h⟩
/-- a while by its invariant and a number that falls -/
theorem whileM_inv {t : St → Sto → R Bool} {ws : List Nat} {body : St → Sto → R Fl} (I : St → Sto → Prop) (J : St → Sto → Prop) (μ : St → Sto → Nat)
    (hs : ∀ σ S, I σ S → (∃ S1, t σ S = .ok false S1 ∧ J σ S1) ∨ ∃ S1, t σ S = .ok true S1 ∧ Tn (body σ S1) fun σ2 S2 => I (wipe σ2 ws) S2 ∧ μ (wipe σ2 ws) S2 < μ σ S) {σ : St} {S : Sto} (h0 : I σ S) :
    ∃ σ' S', whileM t ws body σ S = .ok (.nx σ') S' ∧ J σ' S' := by
  have go : ∀ (n : Nat) (σ : St) (S : Sto), μ σ S ≤ n → I σ S → ∃ σ' S', whileM t ws body σ S = .ok (.nx σ') S' ∧ J σ' S' := by
    intro n
    induction n with
    | zero =>
      intro σ S hn hI
      rw [whileM_turn]
      rcases hs σ S hI with ⟨S1, h1, h2⟩ | ⟨S1, h1, hT⟩
      · rw [h1]; exact ⟨σ, S1, rfl, h2⟩
      · obtain ⟨σ2, S2, h2, h3, h4⟩ := hT.ex; omega
    | succ n ih =>
      intro σ S hn hI
      rw [whileM_turn]
      rcases hs σ S hI with ⟨S1, h1, h2⟩ | ⟨S1, h1, hT⟩
      · rw [h1]; exact ⟨σ, S1, rfl, h2⟩
      · obtain ⟨σ2, S2, h2, h3, h4⟩ := hT.ex
        rw [h1]
        dsimp only
        rcases h2 with h2 | h2
        · rw [h2]; exact ih _ _ (by omega) h3
        · rw [h2]; exact ih _ _ (by omega) h3
  exact go _ σ S (Nat.le_refl _) h0
end Fx
/-! Fx: tables: a list of lists of ints, by the rows' names. -/
namespace Fx
open PySem L2
abbrev Rws := List (Nat × List Int)
structure Tb (S : Sto) (a : Nat) (P : Rws) : Prop where
  top : S[a]? = some (.lst (P.map fun p => V.ref p.1))
  row : ∀ p ∈ P, S[p.1]? = some (.lst (p.2.map V.int))
def rowsOf (P : Rws) : List (List Int) := P.map Prod.snd
theorem Tb.upM {M : List Nat} {S S' : Sto} {a : Nat} {P : Rws} (t : Tb S a P) (h : Up M S S') (ha : a ∉ M) (hr : ∀ p ∈ P, p.1 ∉ M) : Tb S' a P :=
  ⟨h.at' _ _ ha t.top, fun p hp => h.at' _ _ (hr p hp) (t.row p hp)⟩
theorem Tb.up {S S' : Sto} {a : Nat} {P : Rws} (t : Tb S a P) (h : Up [] S S') : Tb S' a P := t.upM h (fun h => nomatch h) (fun _ _ h => nomatch h)
theorem Tb.rd {S : Sto} {a : Nat} {P : Rws} (t : Tb S a P) : rdL (.ref a) S = some (P.map fun p => V.ref p.1) := rdL_lst t.top
theorem Tb.rdT {S : Sto} {a : Nat} {P : Rws} (t : Tb S a P) : rdLT (.ref a) S = some (P.map fun p => V.ref p.1) := rdLT_lst t.top
theorem Tb.rdr {S : Sto} {a : Nat} {P : Rws} (t : Tb S a P) {p : Nat × List Int} (hp : p ∈ P) : rdL (.ref p.1) S = some (p.2.map V.int) := rdL_lst (t.row p hp)
theorem Tb.rdrT {S : Sto} {a : Nat} {P : Rws} (t : Tb S a P) {p : Nat × List Int} (hp : p ∈ P) : rdLT (.ref p.1) S = some (p.2.map V.int) := rdLT_lst (t.row p hp)
theorem Tb.lt {S : Sto} {a : Nat} {P : Rws} (t : Tb S a P) : a < S.length := slt t.top
theorem Tb.ltr {S : Sto} {a : Nat} {P : Rws} (t : Tb S a P) {p : Nat × List Int} (hp : p ∈ P) : p.1 < S.length := slt (t.row p hp)
theorem Tb.len {S : Sto} {a : Nat} {P : Rws} (t : Tb S a P) : lenM [.ref a] S = .ok (.int P.length) S := by rw [lenM_at t.rdT, List.length_map]
/-- the row at a place -/
theorem Tb.ix {S : Sto} {a : Nat} {P : Rws} (t : Tb S a P) {i : Int} {p : Nat × List Int} (h0 : 0 ≤ i) (hp : P[i.toNat]? = some p) : ixQ (.ref a) (.int i) S = .ok (.ref p.1) S :=
  ixQ_int t.rdT h0 (by rw [List.getElem?_map, hp]; rfl)
theorem Tb.get {S : Sto} {a : Nat} {P : Rws} (t : Tb S a P) {i : Nat} {p : Nat × List Int} (hp : P[i]? = some p) : S[p.1]? = some (.lst (p.2.map V.int)) := t.row p (List.mem_of_getElem? hp)
/-- the cell at a place of a row -/
theorem rix {S : Sto} {r : Nat} {row : List Int} {i : Int} (h : S[r]? = some (.lst (row.map V.int))) (h0 : 0 ≤ i) (h1 : i < row.length) : ixQ (.ref r) (.int i) S = .ok (.int (row.getD i.toNat 0)) S :=
  ixQ_int (rdLT_lst h) h0 (getI_D (by omega))
abbrev oneP (p : Nat × List Int) : Itm := .one (.ref p.1)
theorem items_tb (P : Rws) : (P.map fun p => V.ref p.1).map Itm.one = P.map oneP := by rw [List.map_map]; rfl
theorem items_tbz (P Q : Rws) : zipI (P.map fun p => V.ref p.1) (Q.map fun p => V.ref p.1) = (P.zip Q).map fun p => .many [.ref p.1.1, .ref p.2.1] := by
  unfold zipI
  rw [List.zip_map, List.map_map]; rfl
theorem items_tbi (P : Rws) (xs : List Int) : zipI (P.map fun p => V.ref p.1) (xs.map V.int) = (P.zip xs).map fun p => .many [.ref p.1.1, .int p.2] := by
  unfold zipI
  rw [List.zip_map, List.map_map]; rfl
/-! ### fresh rows -/
structure Fr (n : Nat) (S : Sto) (P : Rws) : Prop where
  row : ∀ p ∈ P, S[p.1]? = some (.lst (p.2.map V.int))
  new : ∀ p ∈ P, n ≤ p.1
  nod : (P.map Prod.fst).Nodup
theorem Fr.nil (n : Nat) (S : Sto) : Fr n S [] := ⟨fun _ h => (nomatch h), fun _ h => (nomatch h), List.nodup_nil⟩
theorem Fr.up {n : Nat} {S S' : Sto} {P : Rws} (f : Fr n S P) (h : Up [] S S') : Fr n S' P := ⟨fun p hp => h.get (f.row p hp), f.new, f.nod⟩
theorem Fr.set {n : Nat} {S : Sto} {P : Rws} (f : Fr n S P) {m : Nat} (hm : m < n) (o : Ob) : Fr n (S.set m o) P :=
  ⟨fun p hp => by rw [sset_ne (by have := f.new p hp; omega)]; exact f.row p hp, f.new, f.nod⟩
theorem Fr.snoc {n : Nat} {S S' : Sto} {P : Rws} (f : Fr n S P) (h : Up [] S S') (hn : n ≤ S.length) {b : Nat} {row : List Int} (hb : S.length ≤ b) (e : S'[b]? = some (.lst (row.map V.int))) : Fr n S' (P ++ [(b, row)]) := by
  refine ⟨fun p hp => ?_, fun p hp => ?_, ?_⟩
  · rcases List.mem_append.mp hp with h' | h'
    · exact h.get (f.row p h')
    · rcases List.mem_singleton.mp h' with rfl; exact e
  · rcases List.mem_append.mp hp with h' | h'
    · exact f.new p h'
    · rcases List.mem_singleton.mp h' with rfl; exact Nat.le_trans hn hb
  · rw [List.map_append, List.nodup_append]
    refine ⟨f.nod, by simp, fun x hx y hy => ?_⟩
    obtain ⟨p, hp, rfl⟩ := List.mem_map.mp hx
    simp only [List.map_cons, List.map_nil, List.mem_singleton] at hy
    subst hy
    have := slt (f.row p hp)
    omega
theorem Fr.ltr {n : Nat} {S : Sto} {P : Rws} (f : Fr n S P) {p : Nat × List Int} (hp : p ∈ P) : p.1 < S.length := slt (f.row p hp)
theorem Fr.tb {n : Nat} {S : Sto} {P : Rws} (f : Fr n S P) {a : Nat} (h : S[a]? = some (.lst (P.map fun p => V.ref p.1))) : Tb S a P := ⟨h, f.row⟩
/-- a comprehension that makes new lists of ints -/
theorem compM_tbl {α : Type} {S0 : Sto} {chk : Sto → Bool} {tg : Itm → St → Sto → R St} {te : St → Sto → R V} {σ : St} (g : α → Itm) (f : α → List Int) (hc : ∀ S, Up [] S0 S → chk S = true) {xs : List α}
    (h : ∀ x ∈ xs, ∀ S, Up [] S0 S → ∃ σ1, tg (g x) σ S = .ok σ1 S ∧ Re (te σ1 S) fun v S' => Up [] S S' ∧ ∃ b : Nat, v = .ref b ∧ S.length ≤ b ∧ S'[b]? = some (.lst ((f x).map V.int))) (S : Sto) (h0 : Up [] S0 S) :
    ∃ (P : Rws) (S' : Sto), compM chk tg tYs te (xs.map g) σ S = .ok (P.map fun p => V.ref p.1) S' ∧ Up [] S S' ∧ rowsOf P = xs.map f ∧ Fr S.length S' P := by
  induction xs generalizing S with
  | nil => exact ⟨[], S, by simp [compM, hc S h0], Up.refl _ S, rfl, Fr.nil _ _⟩
  | cons it items ih =>
    obtain ⟨σ1, h1, h2⟩ := h it List.mem_cons_self S h0
    obtain ⟨v, S1, h3, h4, b, rfl, h5, h6⟩ := h2.ex
    obtain ⟨P, S2, e, p, q, r⟩ := ih (fun x hx => h x (List.mem_cons_of_mem _ hx)) S1 (h0.trans h4)
    refine ⟨(b, f it) :: P, S2, ?_, h4.trans p, ?_, ⟨fun x hx => ?_, fun x hx => ?_, ?_⟩⟩
    · rw [List.map_cons, compM, if_pos (hc S h0), h1]
      simp only [R.nox_ok, R.bind_ok, tYs_eq, if_true, h3, e]
      rfl
    · rw [rowsOf, List.map_cons, List.map_cons, ← q]; rfl
    · rcases List.mem_cons.mp hx with rfl | hx
      · exact p.get h6
      · exact r.row x hx
    · rcases List.mem_cons.mp hx with rfl | hx
      · exact h5
      · exact Nat.le_trans h4.len (r.new x hx)
    · rw [List.map_cons, List.nodup_cons]
      refine ⟨fun hx => ?_, r.nod⟩
      obtain ⟨x, hx, hb⟩ := List.mem_map.mp hx
      have := r.new x hx
      have := slt h6
      simp only at hb
      omega
/-! ### all rows cleared -/
theorem forM_clear {chk : Sto → Bool} {k : Nat} {body : St → Sto → R Fl} {σ : St} {P : Rws} (hb : body = sEx (eM0 isLs clearM (eV k))) (hk : k < σ.length) (hσ : (σ.set k none) = σ) {S : Sto} (hr : ∀ p ∈ P, ∃ xs, S[p.1]? = some (.lst xs)) (hc : ∀ S', Up (P.map Prod.fst) S S' → chk S' = true) :
    ∃ S', forM chk (gI1 k) [k] body (P.map oneP) σ S = .ok (.nx σ) S' ∧ Up (P.map Prod.fst) S S' := by
  obtain ⟨S1, e1, p1, _⟩ := forM_at (chk := chk) (tg := gI1 k) (ws := [k]) (body := body) (xs := P) oneP (fun _ => σ) (fun i S' => Up (P.map Prod.fst) S S' ∧ ∀ p ∈ P, ∃ xs, S'[p.1]? = some (.lst xs)) (fun i S' h => hc S' h.1)
    (fun i x S' hx h => by
      obtain ⟨p, q⟩ := h
      have hxP := List.mem_of_getElem? hx
      obtain ⟨xs, hxs⟩ := q x hxP
      refine ⟨_, gI1_one _ _ _ _, ?_⟩
      have hv : (σ.set k (some (V.ref x.1)))[k]? = some (some (V.ref x.1)) := List.getElem?_set_self hk
      subst hb
      simp only [ev, hv, isLs_of (rdL_lst hxs), clearM_at hxs, Tn_nx]
      refine ⟨?_, p.trans (Up.set (List.mem_map_of_mem hxP) _), fun y hy => ?_⟩
      · rw [List.set_set, hσ]
      · by_cases hyx : y.1 = x.1
        · rw [hyx]; exact ⟨_, sset_same hxs⟩
        · rw [sset_ne hyx]; exact q y hy) (S := S) ⟨Up.refl _ _, hr⟩
  exact ⟨S1, e1, p1⟩
/-! ### == of tables -/
def dRow (row : List Int) : PyData := .list (row.map PyData.int)
theorem toD_row {S : Sto} {r : Nat} {row : List Int} (h : S[r]? = some (.lst (row.map V.int))) (n : Nat) : toD (n + 2) S (.ref r) = some (dRow row) := toD_isI (rdL_lst h) n
theorem toD_rows {S : Sto} (n : Nat) : ∀ {P : Rws}, (∀ p ∈ P, S[p.1]? = some (.lst (p.2.map V.int))) → (P.map fun p => V.ref p.1).mapM (toD (n + 2) S) = some ((rowsOf P).map dRow)
  | [], _ => rfl
  | p :: P, h => by
    rw [List.map_cons, List.mapM_cons, toD_rows n (fun q hq => h q (List.mem_cons_of_mem _ hq)), toD_row (h p List.mem_cons_self)]; rfl
theorem toD_tb {S : Sto} {a : Nat} {P : Rws} (t : Tb S a P) (n : Nat) : toD (n + 3) S (.ref a) = some (.list ((rowsOf P).map dRow)) := by
  rw [toD]
  simp only [t.top]
  rw [toD_rows n t.row]
  rfl
theorem depth_row (row : List Int) : (dRow row).depth ≤ 2 := by
  unfold dRow
  rw [PyData.depth]
  have := depA_ints row
  omega
theorem layA_rows (T : List (List Int)) : PyData.canLayAll0 (T.map dRow) = true := by
  induction T with
  | nil => rfl
  | cons r T ih => rw [List.map_cons, PyData.canLayAll0, ih, dRow, PyData.canLay0, layA_ints]; rfl
theorem depA_rows (T : List (List Int)) : PyData.depthAll (T.map dRow) ≤ 2 := by
  induction T with
  | nil => simp [PyData.depthAll]
  | cons r T ih => have := depth_row r; simp only [List.map_cons, PyData.depthAll]; omega
theorem shaped_rows (T : List (List Int)) : SeqAt.shaped (.list (T.map dRow)) = true := by
  unfold SeqAt.shaped
  rw [PyData.canLay0, layA_rows, PyData.depth]
  have := depA_rows T
  simp; omega
theorem eqv_row (x y : List Int) : PyData.eqv (dRow x) (dRow y) = decide (x = y) := by
  unfold dRow; rw [PyData.eqv, eqv_ints]
theorem eqv_rows : ∀ X Y : List (List Int), PyData.eqvAll (X.map dRow) (Y.map dRow) = decide (X = Y)
  | [], [] => rfl
  | [], _ :: _ => by simp [PyData.eqvAll]
  | _ :: _, [] => by simp [PyData.eqvAll]
  | x :: X, y :: Y => by
    rw [List.map_cons, List.map_cons, PyData.eqvAll, eqv_rows X Y, eqv_row]
    by_cases h : x = y <;> simp [h]
theorem eqB_tb {S : Sto} {a b : Nat} {P Q : Rws} (t : Tb S a P) (u : Tb S b Q) : eqB (.ref a) (.ref b) S = some (decide (rowsOf P = rowsOf Q)) := by
  unfold eqB
  rw [toD_tb t, toD_tb u]
  simp only [shaped_rows, and_self, if_true, PyData.eqv, eqv_rows]
theorem eqM_tb {S : Sto} {a b : Nat} {P Q : Rws} (t : Tb S a P) (u : Tb S b Q) : eqM (.ref a) (.ref b) S = .ok (.bl (decide (rowsOf P = rowsOf Q))) S := by
  unfold eqM; rw [eqB_tb t u]
theorem neM_tb {S : Sto} {a b : Nat} {P Q : Rws} (t : Tb S a P) (u : Tb S b Q) : neM (.ref a) (.ref b) S = .ok (.bl (!decide (rowsOf P = rowsOf Q))) S := by
  unfold neM; rw [eqB_tb t u]
theorem gIT2 (i j : Nat) (v w : V) (σ : St) (S : Sto) : gIT [i, j] (.many [v, w]) σ S = .ok ((σ.set i (some v)).set j (some w)) S := rfl
theorem gIT3 (i j k : Nat) (v w u : V) (σ : St) (S : Sto) : gIT [i, j, k] (.many [v, w, u]) σ S = .ok (((σ.set i (some v)).set j (some w)).set k (some u)) S := rfl
/-! ### products of middling numbers -/
theorem log2_mid {i : Int} (h : i.natAbs < 2 ^ 2000) : i.natAbs.log2 < 2000 := by
  by_cases h0 : i.natAbs = 0
  · rw [h0]; decide
  · exact (Nat.log2_lt h0).mpr h
theorem mulM_mid {i j : Int} (hi : i.natAbs < 2 ^ 2000) (hj : j.natAbs < 2 ^ 2000) (S : Sto) : mulM (.int i) (.int j) S = .ok (.int (i * j)) S := by
  rw [mulM_int, if_pos]
  have h1 := log2_mid hi
  have h2 := log2_mid hj
  unfold mulC
  rw [decide_eq_true (show i.natAbs.log2 + j.natAbs.log2 < 1000000 by omega), Bool.or_true]
/-! ### the plain words -/
def wide (T : List (List Int)) : Nat := (T.headD []).length
def turn (T : List (List Int)) : List (List Int) := (List.range (wide T)).map fun k => T.map fun row => row.getD k 0
/-- all cells within B -/
def Bd (B : Int) (T : List (List Int)) : Prop := ∀ r ∈ T, ∀ x ∈ r, -B ≤ x ∧ x ≤ B
theorem mul_bd {x y A B : Int} (h0 : 0 ≤ x) (h1 : x ≤ A) (h2 : 0 ≤ y) (h3 : y ≤ B) : 0 ≤ x * y ∧ x * y ≤ A * B :=
  ⟨Int.mul_nonneg h0 h2, Int.mul_le_mul h1 h3 h2 (by omega)⟩
/-- all rows of one length -/
def Rect (w : Nat) (T : List (List Int)) : Prop := ∀ r ∈ T, r.length = w
theorem rows_len (P : Rws) : (rowsOf P).length = P.length := List.length_map ..
theorem rect_of {w : Nat} {P : Rws} (h : Rect w (rowsOf P)) {p : Nat × List Int} (hp : p ∈ P) : p.2.length = w := h _ (List.mem_map_of_mem hp)
theorem wide_of {w : Nat} {T : List (List Int)} (h : Rect w T) (h0 : T ≠ []) : wide T = w := by
  cases T with
  | nil => exact (h0 rfl).elim
  | cons r T => exact h r List.mem_cons_self
theorem Up.new {M : List Nat} {S S1 S2 : Sto} (h : Up [] S S1) (g : Up M S1 S2) (hM : ∀ m ∈ M, S.length ≤ m) : Up [] S S2 :=
  ⟨Nat.le_trans h.len g.len, fun a o _ e => g.at' a o (fun hm => by have := hM a hm; have := slt e; omega) (h.get e)⟩
theorem Tb.nin {S : Sto} {a : Nat} {P : Rws} (t : Tb S a P) : a ∉ P.map Prod.fst := by
  intro hm
  obtain ⟨p, hp, e⟩ := List.mem_map.mp hm
  have h1 := t.row p hp
  rw [e, t.top] at h1
  injection h1 with h1
  injection h1 with h1
  have : V.ref p.1 ∈ P.map fun p => V.ref p.1 := List.mem_map_of_mem (f := fun p : Nat × List Int => V.ref p.1) hp
  rw [h1] at this
  obtain ⟨x, _, hx⟩ := List.mem_map.mp this
  cases hx
theorem clear_tb {k : Nat} {body : St → Sto → R Fl} {σ : St} {S : Sto} {h : Nat} {H : Rws} (t : Tb S h H) (hb : body = sEx (eM0 isLs clearM (eV k))) (hk : k < σ.length := by (simp only [List.length_cons, List.length_nil]; decide)) (hσ : σ.set k none = σ := by rfl) :
    ∃ S', forM (chkL (.ref h) (H.map fun p => V.ref p.1)) (gI1 k) [k] body (H.map oneP) σ S = .ok (.nx σ) S' ∧ Up (H.map Prod.fst) S S' :=
  forM_clear hb hk hσ (fun p hp => ⟨_, t.row p hp⟩) (fun S' u => chkL_of (rdL_lst (u.at' _ _ t.nin t.top)))
/-- copies of the rows -/
theorem copy_tb {k : Nat} {te : St → Sto → R V} {σ : St} (ht : te = eA listM (aCons (eV k) aNil)) {S : Sto} {a : Nat} {P : Rws} (t : Tb S a P) (hk : k < σ.length := by (simp only [List.length_cons, List.length_nil]; decide)) :
    ∃ (H : Rws) (S' : Sto), compM (chkL (.ref a) (P.map fun p => V.ref p.1)) (gI1 k) tYs te (P.map oneP) σ S = .ok (H.map fun p => V.ref p.1) S' ∧ Up [] S S' ∧ rowsOf H = rowsOf P ∧ Fr S.length S' H := by
  obtain ⟨H, S1, e1, p1, hH, fH⟩ := compM_tbl (S0 := S) (chk := chkL (.ref a) (P.map fun p => V.ref p.1)) (tg := gI1 k) (te := te) (σ := σ) oneP (fun p => p.2) (fun S' p => chkL_of (t.up p).rd) (fun x hx S' p => ⟨_, gI1_one _ _ _ _, by
      have hv : (σ.set k (some (V.ref x.1)))[k]? = some (some (V.ref x.1)) := List.getElem?_set_self hk
      subst ht
      simp only [ev, hv, listM_at ((t.up p).rdrT hx), Re_ok]
      exact ⟨Up.app _ _ _, _, rfl, Nat.le_refl _, snew _ _⟩⟩) S (Up.refl _ _)
  exact ⟨H, S1, e1, p1, hH, fH⟩
end Fx
/-! Fx: equations of the words of F9, FR for simp only [ev, ex9]. -/
namespace Fx
open PySem L2
def kLR1 (r : R V) : R V := match r with
  | .ok x S => match x with
    | .int n => lrM 0 n S
    | _ => .bad
  | .exc c S => .exc c S
  | .bad => .bad
def kLR3 (r : R V) (x : V) : R V := match r with
  | .ok y S => match x, y with
    | .int i, .int j => lrM i j S
    | _, _ => .bad
  | .exc c S => .exc c S
  | .bad => .bad
def kLR2 (r : R V) (m2 : St → Sto → R V) (σ : St) : R V := match r with
  | .ok x S => kLR3 (m2 σ S) x
  | .exc c S => .exc c S
  | .bad => .bad
def kRv2 (o : Option (List V)) (v : V) (S : Sto) : R AI := match o with
  | some xs => .ok (xs.reverse.map .one, chkL v xs) S
  | none => .bad
def kRv (r : R V) : R AI := match r with
  | .ok v S => kRv2 (rdL v S) v S
  | .exc c S => .exc c S
  | .bad => .bad
def kEn2 (o : Option (List V)) (v : V) (S : Sto) : R AI := match o with
  | some xs => .ok (enumI xs, chkL v xs) S
  | none => .bad
def kEn (r : R V) : R AI := match r with
  | .ok v S => kEn2 (rdL v S) v S
  | .exc c S => .exc c S
  | .bad => .bad
def kLRv (r : R V) : R V := match r with
  | .ok x S => revL x S
  | .exc c S => .exc c S
  | .bad => .bad
def kTr (r : R Fl) (cs : List String) (h : String) (suite : St → Sto → R Fl) : R Fl := match r with
  | .ok (.rs c σ1) S1 => if cs.contains c = true then (if subE c h = true then noRs (suite σ1 S1) else .ok (.rs c σ1) S1) else .bad
  | r => r
def kTrA (r : R Fl) (cs : List String) (h : String) (i : Nat) (suite : String → St → St) : R Fl := match r with
  | .ok (.rs c σ1) S1 => if cs.contains c = true ∧ i < σ1.length then (if subE c h = true then .ok (.nx ((suite c (σ1.set i none)).set i none)) S1 else .ok (.rs c σ1) S1) else .bad
  | r => r
section
variable (σ : St) (S : Sto)
theorem eLR1_eq (m : St → Sto → R V) : eLR1 m σ S = kLR1 (m σ S) := by
  unfold eLR1 kLR1 R.bind; cases m σ S <;> rfl
theorem gU_eq (is : List Nat) (v : V) : gU is v σ S = kGT (rdLT v S) is σ S := by
  unfold gU kGT; cases rdLT v S <;> rfl
theorem kLR1_ok (n : Int) : kLR1 (.ok (.int n) S) = lrM 0 n S := rfl
theorem eLR2_eq (m m2 : St → Sto → R V) : eLR2 m m2 σ S = kLR2 (m σ S) m2 σ := by
  unfold eLR2 kLR2 kLR3 R.bind
  cases m σ S with
  | ok x S1 => dsimp only; cases m2 σ S1 <;> rfl
  | _ => rfl
theorem kLR2_ok (x : V) (m2 : St → Sto → R V) : kLR2 (.ok x S) m2 σ = kLR3 (m2 σ S) x := rfl
theorem kLR3_ok (i j : Int) : kLR3 (.ok (.int j) S) (.int i) = lrM i j S := rfl
theorem iRv_eq (m : St → Sto → R V) : iRv m σ S = kRv (m σ S) := by
  unfold iRv kRv kRv2 R.bind
  cases m σ S with
  | ok v S1 => dsimp only; cases rdL v S1 <;> rfl
  | _ => rfl
theorem kRv_ok (v : V) : kRv (.ok v S) = kRv2 (rdL v S) v S := rfl
theorem kRv2_ok (xs : List V) (v : V) : kRv2 (some xs) v S = .ok (xs.reverse.map .one, chkL v xs) S := rfl
theorem iEn_eq (m : St → Sto → R V) : iEn m σ S = kEn (m σ S) := by
  unfold iEn kEn kEn2 R.bind
  cases m σ S with
  | ok v S1 => dsimp only; cases rdL v S1 <;> rfl
  | _ => rfl
theorem kEn_ok (v : V) : kEn (.ok v S) = kEn2 (rdL v S) v S := rfl
theorem kEn2_ok (xs : List V) (v : V) : kEn2 (some xs) v S = .ok (enumI xs, chkL v xs) S := rfl
theorem eLRv_eq (m : St → Sto → R V) : eLRv m σ S = kLRv (m σ S) := by
  unfold eLRv kLRv R.bind; cases m σ S <;> rfl
theorem kLRv_ok (v : V) : kLRv (.ok v S) = revL v S := rfl
theorem sTry_eq (cs : List String) (h : String) (b s : St → Sto → R Fl) : sTry cs h b s σ S = kTr (b σ S) cs h s := by
  unfold sTry kTr; cases b σ S with
  | ok f S1 => cases f <;> rfl
  | _ => rfl
theorem kTr_nx (cs : List String) (h : String) (s : St → Sto → R Fl) : kTr (.ok (.nx σ) S) cs h s = .ok (.nx σ) S := rfl
theorem kTr_rt (v : V) (cs : List String) (h : String) (s : St → Sto → R Fl) : kTr (.ok (.rt v) S) cs h s = .ok (.rt v) S := rfl
theorem kTr_rs (c : String) (cs : List String) (h : String) (s : St → Sto → R Fl) : kTr (.ok (.rs c σ) S) cs h s = if cs.contains c = true then (if subE c h = true then noRs (s σ S) else .ok (.rs c σ) S) else .bad := rfl
theorem noRs_nx : noRs (.ok (.nx σ) S) = .ok (.nx σ) S := rfl
theorem noRs_rt (v : V) : noRs (.ok (.rt v) S) = .ok (.rt v) S := rfl
theorem sTryA_eq (cs : List String) (h : String) (i : Nat) (b : St → Sto → R Fl) (s : String → St → St) : sTryA cs h i b s σ S = kTrA (b σ S) cs h i s := by
  unfold sTryA kTrA; cases b σ S with
  | ok f S1 => cases f <;> rfl
  | _ => rfl
theorem kTrA_nx (cs : List String) (h : String) (i : Nat) (s : String → St → St) : kTrA (.ok (.nx σ) S) cs h i s = .ok (.nx σ) S := rfl
theorem kTrA_rt (v : V) (cs : List String) (h : String) (i : Nat) (s : String → St → St) : kTrA (.ok (.rt v) S) cs h i s = .ok (.rt v) S := rfl
end
def ex9P := And.intro @gU_eq (And.intro @eLR1_eq (And.intro @kLR1_ok (And.intro @eLR2_eq (And.intro @kLR2_ok (And.intro @kLR3_ok (And.intro @iRv_eq (And.intro @kRv_ok (And.intro @kRv2_ok (And.intro @iEn_eq (And.intro @kEn_ok (And.intro @kEn2_ok (And.intro @eLRv_eq (And.intro @kLRv_ok (And.intro @sTry_eq (And.intro @kTr_nx (And.intro @kTr_rt (And.intro @noRs_nx (And.intro @noRs_rt (And.intro @sTryA_eq (And.intro @kTrA_nx (@kTrA_rt)))))))))))))))))))))
theorem ex9 : type_of% ex9P := ex9P
/-- what an error of the class c, taken by its handler h, leaves -/
theorem kTrA_rs {c h : String} {cs : List String} {i : Nat} {s : String → St → St} {σ : St} {S : Sto} (h1 : cs.contains c = true) (h2 : subE c h = true) (h3 : i < σ.length) : kTrA (.ok (.rs c σ) S) cs h i s = .ok (.nx ((s c (σ.set i none)).set i none)) S := by
  show (if _ then (if _ then _ else _) else _) = _
  rw [if_pos ⟨h1, h3⟩, if_pos h2]
theorem kTr_rsY {c h : String} {cs : List String} {s : St → Sto → R Fl} {σ : St} {S : Sto} (h1 : cs.contains c = true) (h2 : subE c h = true) : kTr (.ok (.rs c σ) S) cs h s = noRs (s σ S) := by
  rw [kTr_rs, if_pos h1, if_pos h2]
theorem lrM_at {lo hi : Int} (h : 0 ≤ lo ∧ lo ≤ 1000000 ∧ 0 ≤ hi ∧ hi ≤ 1000000) (S : Sto) : lrM lo hi S = .ok (.ref S.length) (S ++ [.lst (rgV lo hi)]) := by
  unfold lrM rgC; rw [decide_eq_true h, if_pos rfl]; rfl
theorem rgV_0 (n : Nat) : rgV 0 (n : Int) = ((List.range n).map fun (i : Nat) => (i : Int)).map V.int := by
  unfold rgV
  rw [Int.sub_zero, Int.toNat_natCast, List.map_map]
  apply List.map_congr_left
  intro i _
  show V.int (0 + (i : Int)) = V.int (i : Int)
  rw [Int.zero_add]
theorem revL_at {S : Sto} {x : V} {xs : List V} (h : rdL x S = some xs) : revL x S = .ok (.ref S.length) (S ++ [.lst xs.reverse]) := by unfold revL; rw [h]; rfl
theorem allI_ints (ns : List Int) : allI (ns.map V.int) = some ns := by
  induction ns with
  | nil => rfl
  | cons n ns ih => rw [List.map_cons, allI]; first | rw [ih]; rfl | simp [ih]
theorem removeM_at {S : Sto} {n : Nat} {ns : List Int} {k : Int} (h : S[n]? = some (.lst (ns.map V.int))) (hk : k ∈ ns) : removeM (.ref n) [.int k] S = .ok .non (S.set n (.lst ((ns.erase k).map V.int))) := by
  simp only [removeM, chL, h, allI_ints, hk, if_true]
theorem intM_bl (b : Bool) (S : Sto) : intM [.bl b] S = .ok (.int (if b = true then 1 else 0)) S := rfl
theorem intM_int (i : Int) (S : Sto) : intM [.int i] S = .ok (.int i) S := rfl
theorem flatV_int (n : Int) : flatV (.int n) = true := rfl
theorem inV_ints (k : Int) (ns : List Int) : inV (.int k) (ns.map V.int) = decide (k ∈ ns) := by
  unfold inV
  induction ns with
  | nil => rfl
  | cons n ns ih =>
    rw [List.map_cons, List.any_cons, ih]
    show (n == k || decide (k ∈ ns)) = _
    rw [Bool.eq_iff_iff, Bool.or_eq_true, beq_iff_eq, decide_eq_true_eq, decide_eq_true_eq, List.mem_cons]
    exact or_congr_left eq_comm
theorem allFlat_ints (ns : List Int) : (ns.map V.int).all flatV = true := by
  induction ns with
  | nil => rfl
  | cons n ns ih => rw [List.map_cons, List.all_cons, ih]; rfl
theorem inM_ints {S : Sto} {y : V} {ns : List Int} (h : rdLT y S = some (ns.map V.int)) (neg : Bool) (k : Int) : inM neg (.int k) y S = .ok (.bl (if neg = true then !decide (k ∈ ns) else decide (k ∈ ns))) S := by
  unfold inM
  rw [h]
  dsimp only
  rw [if_pos ⟨rfl, allFlat_ints ns⟩, inV_ints]
end Fx
/-! Fx: lists of ints by open places; suites; small facts. -/
namespace Fx
open PySem L2
theorem Up.new' {M : List Nat} {S S1 S2 : Sto} (h : Up [] S S1) (g : Up M S1 S2) (hM : ∀ m ∈ M, S.length ≤ m) : Up [] S S2 := h.new g hM
theorem getL_I {S : Sto} {n : Nat} {ns : List Int} {i : Int} (h : S[n]? = some (.lst (ns.map V.int))) (h0 : 0 ≤ i) (h1 : i < ns.length) : getL (.ref n) (.int i) S = .ok (.int (ns.getD i.toNat 0)) S := by
  have := getL_at (k := i.toNat) (rdL_lst h) (getI_D (by omega))
  rwa [Int.toNat_of_nonneg h0] at this
theorem setL_I {S : Sto} {n : Nat} {ns : List Int} {i v : Int} (h : S[n]? = some (.lst (ns.map V.int))) (h0 : 0 ≤ i) (h1 : i < ns.length) : setL (.ref n) (.int i) (.int v) S = .ok () (S.set n (.lst ((ns.set i.toNat v).map V.int))) := by
  have := setL_at (k := i.toNat) (v := .int v) h (by rw [List.length_map]; omega)
  rwa [Int.toNat_of_nonneg h0, ← List.map_set] at this
/-- the suite that sets 1, then 2 where the class is one of these -/
theorem su1 {c : String} {j : Nat} {ds1 ds2 : List String} {m1 m2 : String → St → St} {σ : St} (h1 : fAny ds1 c = false) (h2 : fAny ds2 c = false) : uSeq (uSet j 1) (uSeq (uIf (fAny ds1) m1) (uSeq (uIf (fAny ds2) m2) uNil)) c σ = σ.set j (some (.int 1)) := by
  simp only [uSeq, uIf, uNil, uSet, h1, h2, Bool.false_eq_true, if_false]
theorem su2 {c : String} {j : Nat} {σ : St} : uSeq (uMul j 3 fYes) uNil c σ = σ.set j (some (.int 3)) := rfl
theorem ftake1 {S : Sto} {a : Nat} {xs : List V} (h : S[a]? = some (.tup xs)) : rdT (.ref a) S = some xs := rdT_tup h
theorem absM_int (i : Int) (S : Sto) : absM [.int i] S = .ok (.int (if i < 0 then -i else i)) S := rfl
theorem catM_at {S : Sto} {a b : Nat} {xs ys : List V} (h1 : S[a]? = some (.lst xs)) (h2 : S[b]? = some (.lst ys)) (hl : xs.length + ys.length ≤ 16777216) : catM (.ref a) (.ref b) S = .ok (.ref S.length) (S ++ [.lst (xs ++ ys)]) := by
  simp only [catM, h1, h2, lim, hl, if_true, alloc]
theorem getD_map_set {ns : List Int} {i j : Nat} {v : Int} : (ns.set i v).getD j 0 = if i = j ∧ j < ns.length then v else ns.getD j 0 := by
  simp only [List.getD_eq_getElem?_getD, List.getElem?_set]
  by_cases h : i = j
  · subst h
    by_cases h2 : i < ns.length
    · simp [h2]
    · simp [h2]
  · simp [h]
end Fx
/-! Fx: searching loops; the last item; sums; heads. -/
namespace Fx
open PySem L2
/-- a loop that goes on as it is, or returns at the first item with p -/
theorem forM_search {α : Type} {chk : Sto → Bool} {tg : Itm → St → Sto → R St} {ws : List Nat} {body : St → Sto → R Fl} (g : α → Itm) (σ : St) (I : Sto → Prop) (p : α → Bool) (v : α → V) (hc : ∀ S, I S → chk S = true) : ∀ {xs : List α},
    (∀ x ∈ xs, ∀ S, I S → ∃ σ1, tg (g x) σ S = .ok σ1 S ∧ (p x = false → Tn (body σ1 S) fun σ2 S2 => wipe σ2 ws = σ ∧ I S2) ∧ (p x = true → ∃ S2, body σ1 S = .ok (.rt (v x)) S2 ∧ I S2)) → ∀ {S : Sto}, I S →
    ∃ S', I S' ∧ forM chk tg ws body (xs.map g) σ S = match xs.find? p with
      | some x => .ok (.rt (v x)) S'
      | none => .ok (.nx σ) S'
  | [], _, S, h0 => ⟨S, h0, by simp [forM, hc S h0]⟩
  | x :: xs, h, S, h0 => by
    obtain ⟨σ1, h1, hf, ht⟩ := h x List.mem_cons_self S h0
    rw [List.map_cons, forM, if_pos (hc S h0), h1, sE_ok, List.find?_cons]
    cases hp : p x with
    | true =>
      obtain ⟨S2, h2, h3⟩ := ht hp
      rw [h2]
      exact ⟨S2, h3, rfl⟩
    | false =>
      obtain ⟨σ2, S2, h2, h3, h4⟩ := (hf hp).ex
      obtain ⟨S', h5, h6⟩ := forM_search g σ I p v hc (xs := xs) (fun y hy => h y (List.mem_cons_of_mem _ hy)) h4
      refine ⟨S', h5, ?_⟩
      rcases h2 with h2 | h2
      · rw [h2]; dsimp only; rw [h3, h6]
      · rw [h2]; dsimp only; rw [h3, h6]
theorem cutV_init (xs : List V) : cutV xs none (some (-1)) = xs.dropLast := by
  unfold cutV
  rw [HT.sIx_none, List.drop_zero, Nat.sub_zero, List.dropLast_eq_take]
  congr 1
  unfold HT.sIx
  dsimp only
  split <;> omega
theorem cutM_init {S : Sto} {x : V} {xs : List V} (h : rdL x S = some xs) : cutM x none (some (-1)) S = .ok (.ref S.length) (S ++ [.lst xs.dropLast]) := by
  cases x with
  | ref a => simp only [cutM, h, cutV_init, Fx.alloc]
  | _ => cases h
theorem atI_last {xs : List V} {v : V} (h : xs[xs.length - 1]? = some v) : atI xs (-1) = some v := by
  have hl : xs.length - 1 < xs.length := (List.getElem?_eq_some_iff.mp h).1
  have e : ixN xs.length (-1) = some (xs.length - 1) := by
    unfold ixN
    rw [if_neg (by omega), if_pos (by omega)]
    congr 1
    omega
  unfold atI; rw [e]; exact h
theorem ixQ_last {S : Sto} {x : V} {xs : List V} {v : V} (h : rdLT x S = some xs) (hk : xs[xs.length - 1]? = some v) : ixQ x (.int (-1)) S = .ok v S := by
  simp only [ixQ, h, atI_last hk]
theorem sum_set : ∀ {ns : List Int} {i : Nat} (v : Int), i < ns.length → (ns.set i v).sum = ns.sum - ns.getD i 0 + v
  | [], i, v, h => by simp at h
  | n :: ns, 0, v, _ => by simp; omega
  | n :: ns, i + 1, v, h => by
    have := sum_set (ns := ns) (i := i) v (by simpa using h)
    simp only [List.set_cons_succ, List.sum_cons, this, List.getD_cons_succ]; omega
theorem sum_perm {a b : List Int} (h : a.Perm b) : a.sum = b.sum := by
  induction h with
  | nil => rfl
  | cons x _ ih => simp only [List.sum_cons, ih]
  | swap x y l => simp only [List.sum_cons]; omega
  | trans _ _ h1 h2 => exact h1.trans h2
/-- the heads of a row -/
def headsL (ns : List Int) : List Int := (List.range ns.length).map fun k => ((dnS ns).take (k + 1)).sum
theorem headsL_len (ns : List Int) : (headsL ns).length = ns.length := by simp [headsL]
theorem dnS_len (ns : List Int) : (dnS ns).length = ns.length := (dnS_perm ns).length_eq
theorem headsL_at {ns : List Int} {k : Nat} (h : k < ns.length) : (headsL ns).getD k 0 = ((dnS ns).take (k + 1)).sum := by
  rw [List.getD_eq_getElem?_getD, headsL, List.getElem?_map, List.getElem?_range h]; rfl
end Fx
/-! Fx: tables that change, dealings, pairs. -/
namespace Fx
open PySem L2
theorem names_set {P : Rws} {i n : Nat} {row row' : List Int} (h : P[i]? = some (n, row)) : (P.set i (n, row')).map Prod.fst = P.map Prod.fst := by
  rw [List.map_set]
  have hi := (List.getElem?_eq_some_iff.mp h)
  obtain ⟨h1, h2⟩ := hi
  have : (n, row').fst = (P.map Prod.fst)[i]'(by simpa using h1) := by simp [h2]
  rw [this, List.set_getElem_self]
theorem refs_of_names (P : Rws) : (P.map fun p => V.ref p.1) = (P.map Prod.fst).map V.ref := by rw [List.map_map]; rfl
theorem rows_set {P : Rws} {i n : Nat} {row' : List Int} : rowsOf (P.set i (n, row')) = (rowsOf P).set i row' := by rw [rowsOf, List.map_set]; rfl
theorem nodup_at {N : List Nat} (nd : N.Nodup) {i j : Nat} {x : Nat} (h1 : N[i]? = some x) (h2 : N[j]? = some x) : i = j := by
  rw [List.getElem?_eq_some_iff] at h1 h2
  obtain ⟨a1, b1⟩ := h1
  obtain ⟨a2, b2⟩ := h2
  exact (List.getElem_inj nd).mp (b1.trans b2.symm)
/-- a row is written -/
theorem Tb.setRow {S : Sto} {a : Nat} {P : Rws} (t : Tb S a P) (nd : (P.map Prod.fst).Nodup) {i n : Nat} {row row' : List Int} (h : P[i]? = some (n, row)) : Tb (S.set n (.lst (row'.map V.int))) a (P.set i (n, row')) := by
  have hm := List.mem_of_getElem? h
  refine ⟨?_, fun p hp => ?_⟩
  · rw [refs_of_names, names_set h, ← refs_of_names, sset_ne]
    · exact t.top
    · intro e
      exact t.nin (by rw [e]; exact List.mem_map_of_mem hm)
  · obtain ⟨k, hk, e⟩ := List.getElem_of_mem hp
    have hkl : k < P.length := by simpa using hk
    rw [List.getElem_set] at e
    by_cases hik : i = k
    · rw [if_pos hik] at e
      rw [← e]
      exact sset_same (t.row _ hm)
    · rw [if_neg hik] at e
      rw [sset_ne, ← e]
      · exact t.row _ (List.getElem_mem hkl)
      · intro e2
        apply hik
        refine nodup_at nd (x := n) (by rw [List.getElem?_map, h]; rfl) ?_
        rw [List.getElem?_map, List.getElem?_eq_getElem hkl, e]; simp [e2]
theorem rect_set {w i : Nat} {T : List (List Int)} {row' : List Int} (h : Rect w T) (hr : row'.length = w) : Rect w (T.set i row') := fun r hm => by
  rcases List.mem_or_eq_of_mem_set hm with h' | h'
  · exact h r h'
  · rw [h']; exact hr
theorem row_of {P : Rws} {i : Nat} (h : i < P.length) : ∃ n, P[i]? = some (n, (rowsOf P).getD i []) := by
  refine ⟨P[i].1, ?_⟩
  rw [List.getElem?_eq_getElem h, List.getD_eq_getElem?_getD, rowsOf, List.getElem?_map, List.getElem?_eq_getElem h]; rfl
theorem range_set {α : Type} {n i : Nat} {f : Nat → α} {v : α} : ((List.range n).map f).set i v = (List.range n).map fun k => if k = i then v else f k := by
  apply List.ext_getElem
  · simp
  · intro k h1 h2
    simp only [List.getElem_set, List.getElem_map, List.getElem_range]
    by_cases h : i = k
    · rw [if_pos h, if_pos h.symm]
    · rw [if_neg h, if_neg (Ne.symm h)]
theorem range_getD {α : Type} {n i : Nat} {f : Nat → α} {d : α} (h : i < n) : ((List.range n).map f).getD i d = f i := by
  rw [List.getD_eq_getElem?_getD, List.getElem?_map, List.getElem?_range h]; rfl
/-- copies of a row's rows are told alike -/
theorem popAtM_I {S : Sto} {n : Nat} {ns : List Int} {k : Int} (h : S[n]? = some (.lst (ns.map V.int))) (h0 : 0 ≤ k) (h1 : k < ns.length) (hl : ns.length ≤ 1000000) : popAtM (.ref n) [.int k] S = .ok (.int (ns.getD k.toNat 0)) (S.set n (.lst ((ns.eraseIdx k.toNat).map V.int))) := by
  have e : ixN (ns.map V.int).length k = some k.toNat := by
    unfold ixN
    rw [List.length_map, if_pos h0, if_pos h1]
  have e2 : (ns.map V.int)[k.toNat]? = some (.int (ns.getD k.toNat 0)) := getI_D (by omega)
  have e3 : (ns.map V.int).eraseIdx k.toNat = (ns.eraseIdx k.toNat).map V.int := by
    rw [List.eraseIdx_eq_take_drop_succ, List.eraseIdx_eq_take_drop_succ, List.map_append, List.map_take, List.map_drop]
  simp only [popAtM, if_pos (show -1000000 ≤ k ∧ k ≤ 1000000 by omega), chL, h, e, e2, e3]
theorem minM_at {S : Sto} {x : V} {ns : List Int} (h : rdL x S = some (ns.map V.int)) (h0 : 0 < ns.length) : minM [x] S = .ok (.int (minL ns)) S := by
  simp only [minM, rdI_of h, h0, if_true]
theorem minL_nonneg {ns : List Int} (h : 0 < ns.length) : 0 ≤ minL ns ↔ ∀ y ∈ ns, 0 ≤ y := by
  obtain ⟨h1, h2⟩ := minL_spec h
  constructor
  · intro h y hy; have := h2 y hy; omega
  · intro h; exact h _ h1
theorem maxM_two (i j : Int) (S : Sto) : maxM [.int i, .int j] S = .ok (.int (if j > i then j else i)) S := rfl
theorem repM_at {S : Sto} {a : Nat} {xs : List V} {k : Nat} (h : S[a]? = some (.lst xs)) (hk : k ≤ 1000) (hl : xs.length ≤ 1000) : repM (.ref a) (.int k) S = .ok (.ref S.length) (S ++ [.lst (List.replicate k xs).flatten]) := by
  simp only [repM, h, if_pos (show -1000 ≤ (k : Int) ∧ (k : Int) ≤ 1000 ∧ xs.length ≤ 1000 by omega), Int.toNat_natCast, alloc]
theorem rep0 (n : Nat) : (List.replicate n [V.int 0]).flatten = (List.replicate n (0 : Int)).map V.int := by
  induction n with
  | zero => rfl
  | succ n ih => rw [List.replicate_succ, List.flatten_cons, ih]; rfl
theorem mulM_rep (a : Nat) (y : V) (S : Sto) : mulM (.ref a) y S = repM (.ref a) y S := rfl
theorem erase_perm {l : List Int} {k : Nat} (h : k < l.length) : (l[k] :: l.eraseIdx k).Perm l := by
  rw [List.eraseIdx_eq_take_drop_succ]
  have : l = l.take k ++ l[k] :: l.drop (k + 1) := by rw [← List.drop_eq_getElem_cons h, List.take_append_drop]
  exact List.Perm.trans List.perm_middle.symm (by rw [← this])
/-! ### pairs of a number and a dealing -/
structure Pr where
  tn : Nat
  w : Int
  dn : Nat
  d : List Int
structure Dl (S : Sto) (a : Nat) (D : List Pr) : Prop where
  top : S[a]? = some (.lst (D.map fun p => V.ref p.tn))
  tup : ∀ p ∈ D, S[p.tn]? = some (.tup [.int p.w, .ref p.dn])
  deal : ∀ p ∈ D, S[p.dn]? = some (.lst (p.d.map V.int))
theorem Dl.up {S S' : Sto} {a : Nat} {D : List Pr} (t : Dl S a D) (h : Up [] S S') : Dl S' a D := ⟨h.get t.top, fun p hp => h.get (t.tup p hp), fun p hp => h.get (t.deal p hp)⟩
abbrev oneD (p : Pr) : Itm := .one (.ref p.tn)
theorem items_dl (D : List Pr) : (D.map fun p => V.ref p.tn).map Itm.one = D.map oneD := by rw [List.map_map]; rfl
/-- a dealing of n places -/
def IsD (n : Nat) (d : List Int) : Prop := d.Perm ((List.range n).map fun (i : Nat) => (i : Int))
theorem IsD.len {n : Nat} {d : List Int} (h : IsD n d) : d.length = n := by rw [h.length_eq]; simp
theorem IsD.rng {n : Nat} {d : List Int} (h : IsD n d) {x : Int} (hx : x ∈ d) : 0 ≤ x ∧ x < n := by
  obtain ⟨i, hi, rfl⟩ := List.mem_map.mp (h.mem_iff.mp hx)
  have := List.mem_range.mp hi
  omega
theorem IsD.at {n : Nat} {d : List Int} (h : IsD n d) {i : Nat} (hi : i < n) : 0 ≤ d.getD i 0 ∧ d.getD i 0 < n := by
  apply h.rng
  rw [List.getD_eq_getElem?_getD, List.getElem?_eq_getElem (by rw [h.len]; exact hi)]
  exact List.getElem_mem _
/-- the table that pairs tell -/
def cellD (D : List Pr) (r c : Nat) : Int := (D.map fun p => if p.d.getD r 0 = (c : Int) then p.w else 0).sum
def tblD (n : Nat) (D : List Pr) : List (List Int) := (List.range n).map fun r => (List.range n).map fun c => cellD D r c
theorem cellD_snoc (D : List Pr) (p : Pr) (r c : Nat) : cellD (D ++ [p]) r c = cellD D r c + if p.d.getD r 0 = (c : Int) then p.w else 0 := by
  unfold cellD; rw [List.map_append, List.sum_append]; simp
theorem tblD_rect (n : Nat) (D : List Pr) : Rect n (tblD n D) := fun r hr => by
  obtain ⟨k, _, rfl⟩ := List.mem_map.mp hr
  simp
/-- within the pair p, the rows below rr done -/
def midD (n : Nat) (D : List Pr) (p : Pr) (rr : Nat) : List (List Int) := (List.range n).map fun r => (List.range n).map fun c => cellD D r c + if r < rr ∧ p.d.getD r 0 = (c : Int) then p.w else 0
theorem midD_0 (n : Nat) (D : List Pr) (p : Pr) : midD n D p 0 = tblD n D := by
  unfold midD tblD
  apply List.map_congr_left; intro r _
  apply List.map_congr_left; intro c _
  rw [if_neg (by omega)]; omega
theorem midD_n (n : Nat) (D : List Pr) (p : Pr) : midD n D p n = tblD n (D ++ [p]) := by
  unfold midD tblD
  apply List.map_congr_left; intro r hr
  apply List.map_congr_left; intro c _
  have := List.mem_range.mp hr
  rw [cellD_snoc]
  by_cases h : p.d.getD r 0 = (c : Int)
  · rw [if_pos ⟨this, h⟩, if_pos h]
  · rw [if_neg (fun z => h z.2), if_neg h]
theorem midD_row {n : Nat} {D : List Pr} {p : Pr} {rr : Nat} (h : rr < n) : (midD n D p rr).getD rr [] = (List.range n).map fun c => cellD D rr c := by
  unfold midD
  rw [range_getD h]
  apply List.map_congr_left; intro c _
  rw [if_neg (by omega)]; omega
theorem midD_step {n : Nat} {D : List Pr} {p : Pr} {rr : Nat} (h : rr < n) (hd : 0 ≤ p.d.getD rr 0 ∧ p.d.getD rr 0 < n) :
    (midD n D p rr).set rr (((List.range n).map fun c => cellD D rr c).set (p.d.getD rr 0).toNat (((List.range n).map fun c => cellD D rr c).getD (p.d.getD rr 0).toNat 0 + p.w)) = midD n D p (rr + 1) := by
  unfold midD
  rw [range_set, range_set, range_getD (by omega)]
  apply List.map_congr_left; intro r hr
  by_cases hrr : r = rr
  · subst hrr
    rw [if_pos rfl]
    apply List.map_congr_left; intro c hc
    by_cases hc2 : c = (p.d.getD r 0).toNat
    · rw [if_pos hc2, if_pos ⟨by omega, by omega⟩, hc2]
    · rw [if_neg hc2, if_neg (fun z => hc2 (by omega))]; omega
  · rw [if_neg hrr]
    apply List.map_congr_left; intro c hc
    by_cases h2 : r < rr ∧ p.d.getD r 0 = (c : Int)
    · rw [if_pos h2, if_pos ⟨by omega, h2.2⟩]
    · rw [if_neg h2, if_neg (fun z => h2 ⟨by omega, z.2⟩)]
theorem zeros_tblD (n : Nat) : (List.range n).map (fun _ => List.replicate n (0 : Int)) = tblD n [] := by
  unfold tblD cellD
  apply List.map_congr_left; intro r _
  apply List.ext_getElem
  · simp
  · intro i h1 h2; simp
/-- one cell of a square table, read and written -/
theorem cell_op {S : Sto} {b n : Nat} {Q : Rws} {i j : Int} (t : Tb S b Q) (nd : (Q.map Prod.fst).Nodup) (hR : Rect n (rowsOf Q)) (hl : Q.length = n) (i0 : 0 ≤ i) (i1 : i < n) (j0 : 0 ≤ j) (j1 : j < n) :
    ∃ (nm : Nat) (c : Int), nm ∈ Q.map Prod.fst ∧ ixQ (.ref b) (.int i) S = .ok (.ref nm) S ∧ ixQ (.ref nm) (.int j) S = .ok (.int c) S ∧ getL (.ref nm) (.int j) S = .ok (.int c) S ∧
      ∀ v : Int, ∃ (S2 : Sto) (Q2 : Rws), setL (.ref nm) (.int j) (.int v) S = .ok () S2 ∧ Up (Q.map Prod.fst) S S2 ∧ Tb S2 b Q2 ∧ Q2.map Prod.fst = Q.map Prod.fst ∧ Rect n (rowsOf Q2) ∧ Q2.length = n := by
  obtain ⟨nm, hnm⟩ := row_of (P := Q) (i := i.toNat) (by omega)
  have hm := List.mem_of_getElem? hnm
  have hrow : S[nm]? = some (.lst (((rowsOf Q).getD i.toNat []).map V.int)) := t.get hnm
  have hrl : ((rowsOf Q).getD i.toNat []).length = n := rect_of hR hm
  refine ⟨nm, _, List.mem_map_of_mem hm, t.ix i0 hnm, rix hrow j0 (by omega), getL_I hrow j0 (by omega), fun v => ?_⟩
  refine ⟨_, Q.set i.toNat (nm, ((rowsOf Q).getD i.toNat []).set j.toNat v), setL_I hrow j0 (by omega), Up.set (List.mem_map_of_mem hm) _, t.setRow nd hnm, names_set hnm, ?_, by rw [List.length_set, hl]⟩
  rw [rows_set]
  exact rect_set hR (by rw [List.length_set, hrl])
/-- the row at a place, a cell of it -/
theorem row_op {S : Sto} {b n : Nat} {Q : Rws} {i : Int} (t : Tb S b Q) (nd : (Q.map Prod.fst).Nodup) (hR : Rect n (rowsOf Q)) (hl : Q.length = n) (i0 : 0 ≤ i) (i1 : i < n) :
    ∃ (nm : Nat), nm ∈ Q.map Prod.fst ∧ ixQ (.ref b) (.int i) S = .ok (.ref nm) S ∧ ∀ (S1 : Sto) (Q1 : Rws), Tb S1 b Q1 → Q1.map Prod.fst = Q.map Prod.fst → Rect n (rowsOf Q1) → ∀ j : Int, 0 ≤ j → j < n → ∃ c : Int, getL (.ref nm) (.int j) S1 = .ok (.int c) S1 ∧
      ∀ v : Int, ∃ (S2 : Sto) (Q2 : Rws), setL (.ref nm) (.int j) (.int v) S1 = .ok () S2 ∧ Up (Q.map Prod.fst) S1 S2 ∧ Tb S2 b Q2 ∧ Q2.map Prod.fst = Q.map Prod.fst ∧ Rect n (rowsOf Q2) := by
  obtain ⟨nm, hnm⟩ := row_of (P := Q) (i := i.toNat) (by omega)
  have hm := List.mem_of_getElem? hnm
  refine ⟨nm, List.mem_map_of_mem hm, t.ix i0 hnm, fun S1 Q1 t1 h1 hR1 j j0 j1 => ?_⟩
  have hl1 : Q1.length = n := by have := congrArg List.length h1; simpa [hl] using this
  obtain ⟨nm', hnm'⟩ := row_of (P := Q1) (i := i.toNat) (by omega)
  have e : nm' = nm := by
    have a1 : (Q1.map Prod.fst)[i.toNat]? = some nm' := by rw [List.getElem?_map, hnm']; rfl
    have a2 : (Q.map Prod.fst)[i.toNat]? = some nm := by rw [List.getElem?_map, hnm]; rfl
    rw [h1, a2] at a1
    exact (Option.some.inj a1).symm
  subst e
  have hm' := List.mem_of_getElem? hnm'
  have hrow : S1[nm']? = some (.lst (((rowsOf Q1).getD i.toNat []).map V.int)) := t1.get hnm'
  have hrl : ((rowsOf Q1).getD i.toNat []).length = n := rect_of hR1 hm'
  refine ⟨_, getL_I hrow j0 (by omega), fun v => ?_⟩
  refine ⟨_, Q1.set i.toNat (nm', ((rowsOf Q1).getD i.toNat []).set j.toNat v), setL_I hrow j0 (by omega), Up.set (List.mem_map_of_mem hm) _, t1.setRow (by rw [h1]; exact nd) hnm', by rw [names_set hnm', h1], ?_⟩
  rw [rows_set]
  exact rect_set hR1 (by rw [List.length_set, hrl])
theorem rect_copy {w : Nat} {A B : List (List Int)} (h : A = B) (r : Rect w B) : Rect w A := h ▸ r
theorem rep1 (v : V) : ∀ n : Nat, (List.replicate n [v]).flatten = List.replicate n v
  | 0 => rfl
  | n + 1 => by rw [List.replicate_succ, List.flatten_cons, rep1 v n, List.replicate_succ]; rfl
end Fx
/-! Fx: pairs compared, copied; what they tell. -/
namespace Fx
open PySem L2
def dPr (q : Int × List Int) : PyData := .tuple [.int q.1, dRow q.2]
def datD (D : List Pr) : List (Int × List Int) := D.map fun p => (p.w, p.d)
theorem toD_prs {S : Sto} (n : Nat) : ∀ {D : List Pr}, (∀ p ∈ D, S[p.tn]? = some (.tup [.int p.w, .ref p.dn])) → (∀ p ∈ D, S[p.dn]? = some (.lst (p.d.map V.int))) → (D.map fun p => V.ref p.tn).mapM (toD (n + 3) S) = some ((datD D).map dPr)
  | [], _, _ => rfl
  | p :: D, h1, h2 => by
    have e : toD (n + 3) S (.ref p.tn) = some (dPr (p.w, p.d)) := by
      rw [toD]
      simp only [h1 p List.mem_cons_self]
      rw [List.mapM_cons, List.mapM_cons, toD_row (h2 p List.mem_cons_self)]; rfl
    rw [List.map_cons, List.mapM_cons, toD_prs n (fun q hq => h1 q (List.mem_cons_of_mem _ hq)) (fun q hq => h2 q (List.mem_cons_of_mem _ hq)), e]; rfl
theorem toD_dl {S : Sto} {a : Nat} {D : List Pr} (t : Dl S a D) (n : Nat) : toD (n + 4) S (.ref a) = some (.list ((datD D).map dPr)) := by
  rw [toD]
  simp only [t.top]
  rw [toD_prs n t.tup t.deal]
  rfl
theorem depth_pr (q : Int × List Int) : (dPr q).depth ≤ 3 := by
  unfold dPr
  rw [PyData.depth]
  have := depth_row q.2
  simp only [PyData.depthAll, PyData.depth]
  omega
theorem layA_prs (T : List (Int × List Int)) : PyData.canLayAll0 (T.map dPr) = true := by
  induction T with
  | nil => rfl
  | cons r T ih => rw [List.map_cons, PyData.canLayAll0, ih, dPr, PyData.canLay0, PyData.canLayAll0, PyData.canLayAll0, dRow, PyData.canLay0, PyData.canLay0, layA_ints]; rfl
theorem depA_prs (T : List (Int × List Int)) : PyData.depthAll (T.map dPr) ≤ 3 := by
  induction T with
  | nil => simp [PyData.depthAll]
  | cons r T ih => have := depth_pr r; simp only [List.map_cons, PyData.depthAll]; omega
theorem shaped_prs (T : List (Int × List Int)) : SeqAt.shaped (.list (T.map dPr)) = true := by
  unfold SeqAt.shaped
  rw [PyData.canLay0, layA_prs, PyData.depth]
  have := depA_prs T
  simp; omega
theorem eqv_pr (x y : Int × List Int) : PyData.eqv (dPr x) (dPr y) = decide (x = y) := by
  obtain ⟨a, b⟩ := x
  obtain ⟨c, d⟩ := y
  unfold dPr
  rw [PyData.eqv, PyData.eqvAll, PyData.eqvAll, PyData.eqvAll, eqv_row, PyData.eqv, Bool.and_true]
  simp only [Prod.mk.injEq]
  by_cases h : a = c <;> by_cases h2 : b = d <;> simp [h, h2]
theorem eqv_prs : ∀ X Y : List (Int × List Int), PyData.eqvAll (X.map dPr) (Y.map dPr) = decide (X = Y)
  | [], [] => rfl
  | [], _ :: _ => by simp [PyData.eqvAll]
  | _ :: _, [] => by simp [PyData.eqvAll]
  | x :: X, y :: Y => by
    rw [List.map_cons, List.map_cons, PyData.eqvAll, eqv_prs X Y, eqv_pr]
    by_cases h : x = y <;> simp [h]
theorem neM_dl {S : Sto} {a b : Nat} {D F : List Pr} (t : Dl S a D) (u : Dl S b F) : neM (.ref a) (.ref b) S = .ok (.bl (!decide (datD D = datD F))) S := by
  unfold neM eqB
  rw [toD_dl t, toD_dl u]
  simp only [shaped_prs, and_self, if_true, PyData.eqv, eqv_prs]
theorem eqM_dl {S : Sto} {a b : Nat} {D F : List Pr} (t : Dl S a D) (u : Dl S b F) : eqM (.ref a) (.ref b) S = .ok (.bl (decide (datD D = datD F))) S := by
  unfold eqM eqB
  rw [toD_dl t, toD_dl u]
  simp only [shaped_prs, and_self, if_true, PyData.eqv, eqv_prs]
theorem cellD_dat {D F : List Pr} (h : datD D = datD F) (r c : Nat) : cellD D r c = cellD F r c := by
  have e : ∀ D : List Pr, cellD D r c = ((datD D).map fun q => if q.2.getD r 0 = (c : Int) then q.1 else 0).sum := fun D => by
    unfold cellD datD; rw [List.map_map]; rfl
  rw [e, e, h]
theorem tblD_dat {D F : List Pr} (h : datD D = datD F) (n : Nat) : tblD n D = tblD n F := by
  unfold tblD
  apply List.map_congr_left; intro r _
  apply List.map_congr_left; intro c _
  exact cellD_dat h r c
theorem tblD_perm {D F : List Pr} (h : D.Perm F) (n : Nat) : tblD n D = tblD n F := by
  unfold tblD
  apply List.map_congr_left; intro r _
  apply List.map_congr_left; intro c _
  exact sum_perm (h.map _)
theorem tblD_thrice (D : List Pr) (n : Nat) : tblD n (D ++ D ++ D) = (tblD n D).map fun row => row.map fun x => 3 * x := by
  unfold tblD
  rw [List.map_map]
  apply List.map_congr_left; intro r _
  simp only [Function.comp]
  rw [List.map_map]
  apply List.map_congr_left; intro c _
  simp only [Function.comp]
  unfold cellD
  rw [List.map_append, List.map_append, List.sum_append, List.sum_append]; omega
/-- a comprehension that makes new pairs -/
theorem compM_dl {α : Type} {S0 : Sto} {chk : Sto → Bool} {tg : Itm → St → Sto → R St} {te : St → Sto → R V} {σ : St} (g : α → Itm) (f : α → Int × List Int) (hc : ∀ S, Up [] S0 S → chk S = true) {xs : List α}
    (h : ∀ x ∈ xs, ∀ S, Up [] S0 S → ∃ σ1, tg (g x) σ S = .ok σ1 S ∧ Re (te σ1 S) fun v S' => Up [] S S' ∧ ∃ tn dn : Nat, v = .ref tn ∧ S.length ≤ tn ∧ S.length ≤ dn ∧ S'[tn]? = some (.tup [.int (f x).1, .ref dn]) ∧ S'[dn]? = some (.lst ((f x).2.map V.int))) (S : Sto) (h0 : Up [] S0 S) :
    ∃ (D : List Pr) (S' : Sto), compM chk tg tYs te (xs.map g) σ S = .ok (D.map fun p => V.ref p.tn) S' ∧ Up [] S S' ∧ datD D = xs.map f ∧ (∀ p ∈ D, S.length ≤ p.tn ∧ S.length ≤ p.dn) ∧ (∀ p ∈ D, S'[p.tn]? = some (.tup [.int p.w, .ref p.dn])) ∧ (∀ p ∈ D, S'[p.dn]? = some (.lst (p.d.map V.int))) := by
  induction xs generalizing S with
  | nil => exact ⟨[], S, by simp [compM, hc S h0], Up.refl _ S, rfl, fun _ h => (nomatch h), fun _ h => (nomatch h), fun _ h => (nomatch h)⟩
  | cons it items ih =>
    obtain ⟨σ1, h1, h2⟩ := h it List.mem_cons_self S h0
    obtain ⟨v, S1, h3, h4, tn, dn, rfl, l1, l2, q1, q2⟩ := h2.ex
    obtain ⟨D, S2, e, p, q, l, t, d⟩ := ih (fun x hx => h x (List.mem_cons_of_mem _ hx)) S1 (h0.trans h4)
    have hlen := h4.len
    refine ⟨⟨tn, (f it).1, dn, (f it).2⟩ :: D, S2, ?_, h4.trans p, ?_, fun x hx => ?_, fun x hx => ?_, fun x hx => ?_⟩
    · rw [List.map_cons, compM, if_pos (hc S h0), h1]
      simp only [R.nox_ok, R.bind_ok, tYs_eq, if_true, h3, e]
      rfl
    · unfold datD at q ⊢; rw [List.map_cons, List.map_cons, q]
    · rcases List.mem_cons.mp hx with rfl | hx
      · exact ⟨l1, l2⟩
      · have := l x hx; omega
    · rcases List.mem_cons.mp hx with rfl | hx
      · exact p.get q1
      · exact t x hx
    · rcases List.mem_cons.mp hx with rfl | hx
      · exact p.get q2
      · exact d x hx
theorem IsD.sorted {n : Nat} {d : List Int} (h : IsD n d) : upS d = (List.range n).map fun (i : Nat) => (i : Int) := by
  refine (upS_unique h.symm ?_).symm
  rw [List.pairwise_map]
  exact List.pairwise_lt_range.imp fun h => by omega
theorem Dl.upM {M : List Nat} {S S' : Sto} {a : Nat} {D : List Pr} (t : Dl S a D) (h : Up M S S') (ha : a ∉ M) (h1 : ∀ p ∈ D, p.tn ∉ M) (h2 : ∀ p ∈ D, p.dn ∉ M) : Dl S' a D := ⟨h.at' _ _ ha t.top, fun p hp => h.at' _ _ (h1 p hp) (t.tup p hp), fun p hp => h.at' _ _ (h2 p hp) (t.deal p hp)⟩
end Fx
/-! Fx: tables that grow. -/
namespace Fx
open PySem L2
theorem rdL_upM {M : List Nat} {S S' : Sto} (h : Up M S S') {c : Nat} {xs : List V} (hc : c ∉ M) (e : rdL (.ref c) S = some xs) : rdL (.ref c) S' = some xs := by
  unfold rdL at e ⊢
  cases q : S[c]? with
  | none => simp [q] at e
  | some o => simp only [q] at e; simp only [h.at' c o hc q]; exact e
/-- a list of names is no list of ints -/
theorem ne_row {S : Sto} {a n : Nat} {P : Rws} {row : List Int} (h : S[a]? = some (.lst (P.map fun p => V.ref p.1))) (h0 : P ≠ []) (h2 : S[n]? = some (.lst (row.map V.int))) : a ≠ n := by
  intro e
  rw [e, h2] at h
  injection h with h
  injection h with h
  obtain ⟨p, P', rfl⟩ := List.exists_cons_of_ne_nil h0
  cases row with
  | nil => simp at h
  | cons x row => simp at h
theorem Tb.snoc {S : Sto} {a n : Nat} {P : Rws} {row : List Int} (t : Tb S a P) (h : S[n]? = some (.lst (row.map V.int))) (hn : n ≠ a) : Tb (S.set a (.lst ((P.map fun p => V.ref p.1) ++ [.ref n]))) a (P ++ [(n, row)]) := by
  refine ⟨by rw [sset_same t.top, List.map_append]; rfl, fun p hp => ?_⟩
  rcases List.mem_append.mp hp with hp | hp
  · rw [sset_ne (fun e => t.nin (by rw [← e]; exact List.mem_map_of_mem hp))]; exact t.row p hp
  · rw [List.mem_singleton.mp hp, sset_ne hn]; exact h
theorem notNM_non (S : Sto) : notNM .non .non S = .ok (.bl false) S := rfl
theorem notNM_ref (a : Nat) (S : Sto) : notNM (.ref a) .non S = .ok (.bl true) S := rfl
theorem isNM_non (S : Sto) : isNM .non .non S = .ok (.bl true) S := rfl
theorem isNM_ref (a : Nat) (S : Sto) : isNM (.ref a) .non S = .ok (.bl false) S := rfl
theorem isNM_int (a : Int) (S : Sto) : isNM (.int a) .non S = .ok (.bl false) S := rfl
end Fx
/-! Fx: tables by cells. -/
namespace Fx
open PySem L2
def setc (T : List (List Int)) (i j : Nat) (v : Int) : List (List Int) := T.set i ((T.getD i []).set j v)
def cl (T : List (List Int)) (i j : Nat) : Int := (T.getD i []).getD j 0
theorem row_len {w : Nat} {T : List (List Int)} (h : Rect w T) {i : Nat} (hi : i < T.length) : (T.getD i []).length = w := by
  rw [List.getD_eq_getElem?_getD, List.getElem?_eq_getElem hi]
  exact h _ (List.getElem_mem _)
theorem setc_len (T : List (List Int)) (i j : Nat) (v : Int) : (setc T i j v).length = T.length := List.length_set ..
theorem setc_rect {w : Nat} {T : List (List Int)} (h : Rect w T) {i : Nat} (hi : i < T.length) (j : Nat) (v : Int) : Rect w (setc T i j v) := rect_set h (by rw [List.length_set, row_len h hi])
theorem cl_setc {w : Nat} {T : List (List Int)} (h : Rect w T) {i j i' j' : Nat} {v : Int} (hi : i < T.length) (hj : j < w) : cl (setc T i j v) i' j' = if i = i' ∧ j = j' then v else cl T i' j' := by
  unfold cl setc
  by_cases h1 : i = i'
  · subst h1
    have e : (T.set i ((T.getD i []).set j v)).getD i [] = (T.getD i []).set j v := by
      rw [List.getD_eq_getElem?_getD, List.getElem?_set_self hi]; rfl
    rw [e, getD_map_set]
    have := row_len h hi
    by_cases h2 : j = j'
    · subst h2; rw [if_pos ⟨rfl, by omega⟩, if_pos ⟨rfl, rfl⟩]
    · rw [if_neg (fun z => h2 z.1), if_neg (fun z => h2 z.2)]
  · have e : (T.set i ((T.getD i []).set j v)).getD i' [] = T.getD i' [] := by
      rw [List.getD_eq_getElem?_getD, List.getElem?_set_ne h1, List.getD_eq_getElem?_getD]
    rw [e, if_neg (fun z => h1 z.1)]
theorem tab_ext {w : Nat} {A B : List (List Int)} (hl : A.length = B.length) (hA : Rect w A) (hB : Rect w B) (h : ∀ i j, i < A.length → j < w → cl A i j = cl B i j) : A = B := by
  apply List.ext_getElem hl
  intro i h1 h2
  have la := hA _ (List.getElem_mem h1)
  have lb := hB _ (List.getElem_mem h2)
  apply List.ext_getElem (by rw [la, lb])
  intro j h3 h4
  have := h i j h1 (by omega)
  unfold cl at this
  simpa only [List.getD_eq_getElem?_getD, List.getElem?_eq_getElem h1, List.getElem?_eq_getElem h2, Option.getD_some, List.getElem?_eq_getElem h3, List.getElem?_eq_getElem h4] using this
/-- a cell by its places: read, written -/
theorem cell_at {S : Sto} {b w : Nat} {Q : Rws} {i j : Int} (t : Tb S b Q) (nd : (Q.map Prod.fst).Nodup) (hR : Rect w (rowsOf Q)) (i0 : 0 ≤ i) (i1 : i < Q.length) (j0 : 0 ≤ j) (j1 : j < w) :
    ∃ nm : Nat, nm ∈ Q.map Prod.fst ∧ ixQ (.ref b) (.int i) S = .ok (.ref nm) S ∧ ixQ (.ref nm) (.int j) S = .ok (.int (cl (rowsOf Q) i.toNat j.toNat)) S ∧ getL (.ref nm) (.int j) S = .ok (.int (cl (rowsOf Q) i.toNat j.toNat)) S ∧
      ∀ v : Int, ∃ (S2 : Sto) (Q2 : Rws), setL (.ref nm) (.int j) (.int v) S = .ok () S2 ∧ Up (Q.map Prod.fst) S S2 ∧ Tb S2 b Q2 ∧ Q2.map Prod.fst = Q.map Prod.fst ∧ rowsOf Q2 = setc (rowsOf Q) i.toNat j.toNat v := by
  obtain ⟨nm, hnm⟩ := row_of (P := Q) (i := i.toNat) (by omega)
  have hm := List.mem_of_getElem? hnm
  have hrow : S[nm]? = some (.lst (((rowsOf Q).getD i.toNat []).map V.int)) := t.get hnm
  have hrl : ((rowsOf Q).getD i.toNat []).length = w := rect_of hR hm
  refine ⟨nm, List.mem_map_of_mem hm, t.ix i0 hnm, rix hrow j0 (by omega), getL_I hrow j0 (by omega), fun v => ?_⟩
  exact ⟨_, Q.set i.toNat (nm, ((rowsOf Q).getD i.toNat []).set j.toNat v), setL_I hrow j0 (by omega), Up.set (List.mem_map_of_mem hm) _, t.setRow nd hnm, names_set hnm, by rw [rows_set]; rfl⟩
/-- only read: any table -/
theorem cell_rd {S : Sto} {b w : Nat} {Q : Rws} {i j : Int} (t : Tb S b Q) (hR : Rect w (rowsOf Q)) (i0 : 0 ≤ i) (i1 : i < Q.length) (j0 : 0 ≤ j) (j1 : j < w) :
    ∃ nm : Nat, ixQ (.ref b) (.int i) S = .ok (.ref nm) S ∧ ∀ (j : Int), 0 ≤ j → j < w → ixQ (.ref nm) (.int j) S = .ok (.int (cl (rowsOf Q) i.toNat j.toNat)) S := by
  obtain ⟨nm, hnm⟩ := row_of (P := Q) (i := i.toNat) (by omega)
  have hm := List.mem_of_getElem? hnm
  have hrow : S[nm]? = some (.lst (((rowsOf Q).getD i.toNat []).map V.int)) := t.get hnm
  have hrl : ((rowsOf Q).getD i.toNat []).length = w := rect_of hR hm
  exact ⟨nm, t.ix i0 hnm, fun j j0 j1 => rix hrow j0 (by omega)⟩
/-- a loop over two items that goes through -/
theorem forM_two {chk : Sto → Bool} {tg : Itm → St → Sto → R St} {ws : List Nat} {body : St → Sto → R Fl} {x y : Itm} {σ σ1 σ2 σ3 σ4 : St} {S S2 S4 : Sto} (c1 : chk S = true) (h1 : tg x σ S = .ok σ1 S) (b1 : body σ1 S = .ok (.nx σ2) S2) (c2 : chk S2 = true) (h2 : tg y (wipe σ2 ws) S2 = .ok σ3 S2)
    (b2 : body σ3 S2 = .ok (.nx σ4) S4) (c4 : chk S4 = true) : forM chk tg ws body [x, y] σ S = .ok (.nx (wipe σ4 ws)) S4 := by
  simp only [forM, c1, c2, c4, h1, h2, b1, b2, if_true, sE_ok]
/-- noughts and ones alone -/
def Ones (T : List (List Int)) : Prop := ∀ r ∈ T, ∀ x ∈ r, x = 0 ∨ x = 1
theorem Ones.cl {T : List (List Int)} (h : Ones T) {i j : Nat} : cl T i j = 0 ∨ cl T i j = 1 := by
  unfold Fx.cl
  by_cases hi : i < T.length
  · by_cases hj : j < (T.getD i []).length
    · have e : (T.getD i []).getD j 0 = (T.getD i [])[j] := by rw [List.getD_eq_getElem?_getD, List.getElem?_eq_getElem hj]; rfl
      rw [e]
      have e2 : T.getD i [] = T[i] := by rw [List.getD_eq_getElem?_getD, List.getElem?_eq_getElem hi]; rfl
      refine h (T.getD i []) ?_ _ (List.getElem_mem _)
      rw [e2]; exact List.getElem_mem _
    · left; rw [List.getD_eq_getElem?_getD, List.getElem?_eq_none (by omega)]; rfl
  · left
    have e : T.getD i [] = [] := by rw [List.getD_eq_getElem?_getD, List.getElem?_eq_none (show T.length ≤ i by omega)]; rfl
    rw [e]; rfl
theorem Ones.setc {T : List (List Int)} (h : Ones T) {i j : Nat} {v : Int} (hv : v = 0 ∨ v = 1) : Ones (setc T i j v) := fun r hr x hx => by
  rcases List.mem_or_eq_of_mem_set hr with h' | h'
  · exact h r h' x hx
  · rw [h'] at hx
    rcases List.mem_or_eq_of_mem_set hx with h2 | h2
    · by_cases hi : i < T.length
      · have e2 : T.getD i [] = T[i] := by rw [List.getD_eq_getElem?_getD, List.getElem?_eq_getElem hi]; rfl
        exact h _ (by rw [e2]; exact List.getElem_mem _) x h2
      · rw [List.getD_eq_getElem?_getD, List.getElem?_eq_none (show T.length ≤ i by omega)] at h2; simp at h2
    · rw [h2]; exact hv
end Fx
/-! Fx: equations of the words of FB; loops that raise at a first item; known things. -/
namespace Fx
open PySem L2
theorem eDnew_eq (σ : St) (S : Sto) : eDnew σ S = .ok (.ref S.length) (S ++ [.dK []]) := rfl
theorem isBM_bl (x : V) (b : Bool) (S : Sto) : isBM x (.bl b) S = .ok (.bl (decide (x = .bl b))) S := rfl
theorem notBM_bl (x : V) (b : Bool) (S : Sto) : notBM x (.bl b) S = .ok (.bl (!decide (x = .bl b))) S := rfl
theorem int_bl (i : Int) (b : Bool) : (V.int i = V.bl b) = False := by simp
theorem kLst_9 (x0 x1 x2 x3 x4 x5 x6 x7 x8 : V) (S : Sto) : kLst (.ok [x0, x1, x2, x3, x4, x5, x6, x7, x8] S) = .ok (.ref S.length) (S ++ [.lst [x0, x1, x2, x3, x4, x5, x6, x7, x8]]) := by simp [kLst]
theorem kLst_10 (x0 x1 x2 x3 x4 x5 x6 x7 x8 x9 : V) (S : Sto) : kLst (.ok [x0, x1, x2, x3, x4, x5, x6, x7, x8, x9] S) = .ok (.ref S.length) (S ++ [.lst [x0, x1, x2, x3, x4, x5, x6, x7, x8, x9]]) := by simp [kLst]
theorem kLst_11 (x0 x1 x2 x3 x4 x5 x6 x7 x8 x9 x10 : V) (S : Sto) : kLst (.ok [x0, x1, x2, x3, x4, x5, x6, x7, x8, x9, x10] S) = .ok (.ref S.length) (S ++ [.lst [x0, x1, x2, x3, x4, x5, x6, x7, x8, x9, x10]]) := by simp [kLst]
theorem kLst_12 (x0 x1 x2 x3 x4 x5 x6 x7 x8 x9 x10 x11 : V) (S : Sto) : kLst (.ok [x0, x1, x2, x3, x4, x5, x6, x7, x8, x9, x10, x11] S) = .ok (.ref S.length) (S ++ [.lst [x0, x1, x2, x3, x4, x5, x6, x7, x8, x9, x10, x11]]) := by simp [kLst]
theorem kTup_0 (S : Sto) : kTup (.ok [] S) = .ok (.ref S.length) (S ++ [.tup []]) := by simp [kTup]
def exAP := And.intro @eDnew_eq (And.intro @isBM_bl (And.intro @notBM_bl (And.intro @int_bl (And.intro @kLst_9 (And.intro @kLst_10 (And.intro @kLst_11 (And.intro @kLst_12 @kTup_0)))))))
theorem exA : type_of% exAP := exAP
theorem forM_upto {α : Type} {chk : Sto → Bool} {tg : Itm → St → Sto → R St} {ws : List Nat} {body : St → Sto → R Fl} (g : α → Itm) (σ : St) {S : Sto} {c : String} (hc : chk S = true) : ∀ {xs : List α} (k : Nat), k < xs.length →
    (∀ i x, xs[i]? = some x → i ≤ k → ∃ σ1, tg (g x) σ S = .ok σ1 S ∧ (i < k → ∃ σ2, body σ1 S = .ok (.nx σ2) S ∧ wipe σ2 ws = σ) ∧ (i = k → ∃ σ2, body σ1 S = .ok (.rs c σ2) S)) →
    ∃ σ2, forM chk tg ws body (xs.map g) σ S = .ok (.rs c σ2) S
  | [], k, hk, _ => by simp at hk
  | x :: xs, k, hk, h => by
    obtain ⟨σ1, h1, hf, ht⟩ := h 0 x rfl (Nat.zero_le _)
    rw [List.map_cons, forM, if_pos hc, h1, sE_ok]
    cases k with
    | zero =>
      obtain ⟨σ2, h2⟩ := ht rfl
      rw [h2]
      exact ⟨σ2, rfl⟩
    | succ k =>
      obtain ⟨σ2, h2, h3⟩ := hf (Nat.succ_pos _)
      rw [h2]
      dsimp only
      rw [h3]
      refine forM_upto g σ hc (xs := xs) k (by simpa using hk) fun i y hy hi => ?_
      obtain ⟨σ3, h4, h5, h6⟩ := h (i + 1) y hy (by omega)
      exact ⟨σ3, h4, fun hlt => h5 (by omega), fun he => h6 (by omega)⟩
/-- a loop that goes on as it is, or raises c at the first item with p -/
theorem forM_raise {α : Type} {chk : Sto → Bool} {tg : Itm → St → Sto → R St} {ws : List Nat} {body : St → Sto → R Fl} (g : α → Itm) (σ : St) {S : Sto} {c : String} (p : α → Bool) (hc : chk S = true) {xs : List α} (hp : ∃ x ∈ xs, p x = true)
    (h : ∀ (i : Nat) x, xs[i]? = some x → (∀ (j : Nat) y, j < i → xs[j]? = some y → p y = false) → ∃ σ1, tg (g x) σ S = .ok σ1 S ∧ (p x = false → ∃ σ2, body σ1 S = .ok (.nx σ2) S ∧ wipe σ2 ws = σ) ∧ (p x = true → ∃ σ2, body σ1 S = .ok (.rs c σ2) S)) :
    ∃ σ2, forM chk tg ws body (xs.map g) σ S = .ok (.rs c σ2) S := by
  have hk : xs.findIdx p < xs.length := List.findIdx_lt_length.mpr hp
  refine forM_upto g σ hc (xs.findIdx p) hk fun i x hx hi => ?_
  have low : ∀ (j : Nat) y, j < xs.findIdx p → xs[j]? = some y → p y = false := fun j y hj hy => by
    obtain ⟨hl, rfl⟩ := List.getElem?_eq_some_iff.mp hy
    have := List.not_of_lt_findIdx hj
    simpa using this
  obtain ⟨σ1, h1, h2, h3⟩ := h i x hx fun j y hj hy => low j y (by omega) hy
  refine ⟨σ1, h1, fun hlt => h2 (low i x hlt hx), fun he => h3 ?_⟩
  subst he
  obtain ⟨hl, rfl⟩ := List.getElem?_eq_some_iff.mp hx
  exact List.findIdx_getElem
/-! ### known things -/
def Kn (S : Sto) (x : V) : Prop := (tyN x S).isSome = true
theorem tyN_up {S S' : Sto} (h : Up [] S S') {x : V} {t : String} (e : tyN x S = some t) : tyN x S' = some t := by
  cases x with
  | ref n =>
    have e : (match S[n]? with
      | some (.lst _) => some "list"
      | some (.tup _) => some "tuple"
      | some (.dK _) => some "dict"
      | some (.dT _) => some "dict"
      | _ => none) = some t := e
    show (match S'[n]? with
      | some (.lst _) => some "list"
      | some (.tup _) => some "tuple"
      | some (.dK _) => some "dict"
      | some (.dT _) => some "dict"
      | _ => none) = some t
    cases ho : S[n]? with
    | none => rw [ho] at e; cases e
    | some o => rw [h.get ho]; rw [ho] at e; exact e
  | _ => exact e
theorem Kn.up {S S' : Sto} (h : Up [] S S') {x : V} (k : Kn S x) : Kn S' x := by
  obtain ⟨t, e⟩ := Option.isSome_iff_exists.mp k
  exact Option.isSome_iff_exists.mpr ⟨t, tyN_up h e⟩
theorem tyN_lst {S : Sto} {n : Nat} {xs : List V} (h : S[n]? = some (.lst xs)) : tyN (.ref n) S = some "list" := by unfold tyN; simp only [h]
theorem tyN_tup {S : Sto} {n : Nat} {xs : List V} (h : S[n]? = some (.tup xs)) : tyN (.ref n) S = some "tuple" := by unfold tyN; simp only [h]
theorem tyN_dK {S : Sto} {n : Nat} {xs : List (Key × V)} (h : S[n]? = some (.dK xs)) : tyN (.ref n) S = some "dict" := by unfold tyN; simp only [h]
theorem Kn.lst {S : Sto} {n : Nat} {xs : List V} (h : S[n]? = some (.lst xs)) : Kn S (.ref n) := by unfold Kn; rw [tyN_lst h]; rfl
theorem Kn.tup {S : Sto} {n : Nat} {xs : List V} (h : S[n]? = some (.tup xs)) : Kn S (.ref n) := by unfold Kn; rw [tyN_tup h]; rfl
theorem Kn.dK {S : Sto} {n : Nat} {xs : List (Key × V)} (h : S[n]? = some (.dK xs)) : Kn S (.ref n) := by unfold Kn; rw [tyN_dK h]; rfl
theorem tyN_is {S : Sto} {x : V} (h : tyN x S = some "list") : ∃ (n : Nat) (xs : List V), x = .ref n ∧ S[n]? = some (.lst xs) := by
  cases x with
  | ref n =>
    refine ⟨n, ?_⟩
    unfold tyN at h
    cases ho : S[n]? with
    | none => simp only [ho] at h; cases h
    | some o =>
      cases o with
      | lst xs => exact ⟨xs, rfl, rfl⟩
      | frl xs => simp only [ho] at h; cases h
      | tup xs => simp only [ho] at h; exact absurd h (by decide)
      | dK xs => simp only [ho] at h; exact absurd h (by decide)
      | dT xs => simp only [ho] at h; exact absurd h (by decide)
      | fD xs => simp only [ho] at h; cases h
      | tab xs q => simp only [ho] at h; cases h
      | dN xs => simp only [ho] at h; cases h
  | non => exact absurd h (by simp [tyN])
  | bl b => exact absurd h (by simp [tyN])
  | int b => exact absurd h (by simp [tyN])
  | str b => exact absurd h (by simp [tyN])
  | _ => cases h
theorem tyN_mem {S : Sto} {x : V} {t : String} (h : tyN x S = some t) : t ∈ ["NoneType", "bool", "int", "str", "list", "tuple", "dict"] := by
  cases x with
  | ref n =>
    unfold tyN at h
    cases ho : S[n]? with
    | none => simp only [ho] at h; cases h
    | some o =>
      cases o <;> simp only [ho] at h <;> first | (cases h; simp; done) | cases h
  | non => cases h; decide
  | bl b => cases h; decide
  | int b => cases h; decide
  | str b => cases h; decide
  | _ => cases h
theorem isi_of {S : Sto} {x : V} {t b : String} (h : tyN x S = some t) (hb : b ∈ ["bool", "int", "str", "list", "tuple", "dict"]) : isiM [x, .ty b] S = .ok (.bl (decide (t = b) || (decide (t = "bool") && decide (b = "int")))) S := by
  unfold isiM
  simp only [h]
  unfold isB
  rw [if_pos ⟨tyN_mem h, hb⟩]
theorem tyN_int {S : Sto} {x : V} (h : tyN x S = some "int") : ∃ i, x = .int i := by
  cases x with
  | ref n =>
    unfold tyN at h
    cases ho : S[n]? with
    | none => simp only [ho] at h; cases h
    | some o => cases o <;> simp only [ho] at h <;> first | cases h | exact absurd h (by decide)
  | non => exact absurd h (by simp [tyN])
  | bl b => exact absurd h (by simp [tyN])
  | int b => exact ⟨b, rfl⟩
  | str b => exact absurd h (by simp [tyN])
  | _ => cases h
theorem tyN_bool {S : Sto} {x : V} (h : tyN x S = some "bool") : ∃ i, x = .bl i := by
  cases x with
  | ref n =>
    unfold tyN at h
    cases ho : S[n]? with
    | none => simp only [ho] at h; cases h
    | some o => cases o <;> simp only [ho] at h <;> first | cases h | exact absurd h (by decide)
  | non => exact absurd h (by simp [tyN])
  | bl b => exact ⟨b, rfl⟩
  | int b => exact absurd h (by simp [tyN])
  | str b => exact absurd h (by simp [tyN])
  | _ => cases h
theorem tupleM_at {S : Sto} {a : Nat} {xs : List V} (h : S[a]? = some (.lst xs)) : tupleM [.ref a] S = .ok (.ref S.length) (S ++ [.tup xs]) := by
  show (match rdL (.ref a) S with
    | some xs => alloc (.tup xs) S
    | none => match rdT (.ref a) S with
      | some _ => .ok (.ref a) S
      | none => .bad) = _
  rw [rdL_lst h]
  rfl
end Fx
/-! Fx: equations of the words of FC. -/
namespace Fx
open PySem L2
def kClD (r : R (List V)) (n : Nat) (dv : Int) (m : List V → Sto → R V) : R V := match r with
  | .ok vs S => if vs.length = n then m (vs ++ [.int dv]) S else .bad
  | .exc c S => .exc c S
  | .bad => .bad
theorem eClD_eq (n : Nat) (dv : Int) (m : List V → Sto → R V) (ma : St → Sto → R (List V)) (σ : St) (S : Sto) : eClD n dv m ma σ S = kClD (ma σ S) n dv m := by
  unfold eClD kClD R.bind; cases ma σ S <;> rfl
theorem kClD_1 (x : V) (S : Sto) (dv : Int) (m : List V → Sto → R V) : kClD (.ok [x] S) 1 dv m = m [x, .int dv] S := rfl
def exBP := And.intro @eClD_eq @kClD_1
theorem exB : type_of% exBP := exBP
end Fx
/-! Fx: dicts at work; loops that may return; picking one from few. -/
namespace Fx
open PySem L2
/-! equations -/
def kD2 (r : R V) (x : V) : R V := match r with
  | .ok y S => match keyOf x with
    | some k => .ok (.ref S.length) (S ++ [.dK [(k, y)]])
    | none => .bad
  | _ => .bad
def kD1 (r : R V) (mv : St → Sto → R V) (σ : St) : R V := match r with
  | .ok x S => kD2 (mv σ S) x
  | _ => .bad
def getQ (x y : V) (S : Sto) : R V := match rdK x S with
  | some kvs => match keyOf y with
    | some k => .ok ((valV kvs k).getD .non) S
    | none => .bad
  | none => .bad
def kGe2 (r : R V) (x : V) : R V := match r with
  | .ok y S => getQ x y S
  | .exc c S => .exc c S
  | .bad => .bad
def kGe1 (o : Option (List (Key × V))) (r : R V) (x : V) : R V := match o with
  | some _ => kGe2 r x
  | none => .bad
def kGe (r : R V) (mk : St → Sto → R V) (σ : St) : R V := match r with
  | .ok x S => kGe1 (rdK x S) (mk σ S) x
  | .exc c S => .exc c S
  | .bad => .bad
section
variable (σ : St) (S : Sto)
theorem eD1_eq (mk mv : St → Sto → R V) : eD1 mk mv σ S = kD1 (mk σ S) mv σ := by
  unfold eD1 kD1 kD2 R.bind R.nox
  cases mk σ S with
  | ok x S1 => dsimp only; cases mv σ S1 <;> rfl
  | exc c S1 => rfl
  | bad => rfl
theorem kD1_ok (x : V) (mv : St → Sto → R V) : kD1 (.ok x S) mv σ = kD2 (mv σ S) x := rfl
theorem kD2_int (y : V) (i : Int) : kD2 (.ok y S) (.int i) = .ok (.ref S.length) (S ++ [.dK [(.inl i, y)]]) := rfl
theorem eGet_eq (mo mk : St → Sto → R V) : eGet mo mk σ S = kGe (mo σ S) mk σ := by
  unfold eGet kGe R.bind
  cases mo σ S with
  | ok x S1 =>
    dsimp only
    unfold kGe1 kGe2
    cases rdK x S1 with
    | none => rfl
    | some kvs => dsimp only; cases mk σ S1 <;> rfl
  | exc c S1 => rfl
  | bad => rfl
theorem kGe_ok (x : V) (mk : St → Sto → R V) : kGe (.ok x S) mk σ = kGe1 (rdK x S) (mk σ S) x := rfl
theorem kGe1_ok (kvs : List (Key × V)) (r : R V) (x : V) : kGe1 (some kvs) r x = kGe2 r x := rfl
theorem kGe2_ok (x y : V) : kGe2 (.ok y S) x = getQ x y S := rfl
theorem notNM_int (i : Int) : notNM (.int i) .non S = .ok (.bl true) S := rfl
end
def exDP := And.intro @eD1_eq (And.intro @kD1_ok (And.intro @kD2_int (And.intro @eGet_eq (And.intro @kGe_ok (And.intro @kGe1_ok (And.intro @kGe2_ok (And.intro @notNM_int @notNM_non)))))))
theorem exD : type_of% exDP := exDP
theorem rdK_at {S : Sto} {n : Nat} {kvs : List (Key × V)} (h : S[n]? = some (.dK kvs)) : rdK (.ref n) S = some kvs := by simp only [rdK, h]
/-! a dict of whole numbers by whole numbers -/
def DN (S : Sto) (n : Nat) (f : Nat → Option Nat) (m : Nat) : Prop := ∃ kvs, S[n]? = some (.dK kvs) ∧ (∀ i : Nat, valV kvs (.inl (i : Int)) = (f i).map fun (c : Nat) => V.int c) ∧ kvs.length ≤ m
def oV (o : Option Nat) : V := match o with
  | some c => .int c
  | none => .non
def fput {α : Type} (f : Nat → Option α) (i : Nat) (c : α) : Nat → Option α := fun j => if j = i then some c else f j
theorem fput_same {α : Type} {f : Nat → Option α} {i : Nat} {c : α} : fput f i c i = some c := if_pos rfl
theorem fput_ne {α : Type} {f : Nat → Option α} {i j : Nat} {c : α} (h : j ≠ i) : fput f i c j = f j := if_neg h
theorem DN.upM {M : List Nat} {S S' : Sto} {n m : Nat} {f : Nat → Option Nat} (d : DN S n f m) (h : Up M S S') (hn : n ∉ M) : DN S' n f m := by
  obtain ⟨kvs, e, v, l⟩ := d
  exact ⟨kvs, h.at' n _ hn e, v, l⟩
theorem DN.up {S S' : Sto} {n m : Nat} {f : Nat → Option Nat} (d : DN S n f m) (h : Up [] S S') : DN S' n f m := d.upM h (fun h => nomatch h)
theorem DN.le {S : Sto} {n m m' : Nat} {f : Nat → Option Nat} (d : DN S n f m) (h : m ≤ m') : DN S n f m' := by
  obtain ⟨kvs, e, v, l⟩ := d
  exact ⟨kvs, e, v, Nat.le_trans l h⟩
theorem DN.lt {S : Sto} {n m : Nat} {f : Nat → Option Nat} (d : DN S n f m) : n < S.length := by
  obtain ⟨kvs, e, v, l⟩ := d
  exact slt e
theorem DN.get {S : Sto} {n m i c : Nat} {f : Nat → Option Nat} (d : DN S n f m) (h : f i = some c) : dixM (.ref n) (.int i) S = .ok (.int c) S := by
  obtain ⟨kvs, e, v, l⟩ := d
  have := v i
  rw [h] at this
  unfold dixM
  rw [rdK_at e]
  simp only [keyOf, this, Option.map_some]
theorem DN.isin {S : Sto} {n m : Nat} {f : Nat → Option Nat} (d : DN S n f m) (neg : Bool) (i : Nat) : dinM neg (.int i) (.ref n) S = .ok (.bl (if neg = true then !(f i).isSome else (f i).isSome)) S := by
  obtain ⟨kvs, e, v, l⟩ := d
  unfold dinM
  rw [rdK_at e]
  simp only [keyOf, v i, Option.isSome_map]
theorem DN.rd {S : Sto} {n m : Nat} {f : Nat → Option Nat} (d : DN S n f m) : ∃ kvs, rdK (.ref n) S = some kvs := by
  obtain ⟨kvs, e, v, l⟩ := d
  exact ⟨kvs, rdK_at e⟩
theorem DN.getQ {S : Sto} {n m : Nat} {f : Nat → Option Nat} (d : DN S n f m) (i : Nat) : getQ (.ref n) (.int i) S = .ok (oV (f i)) S := by
  obtain ⟨kvs, e, v, l⟩ := d
  unfold Fx.getQ
  rw [rdK_at e]
  simp only [keyOf, v i]
  cases f i <;> rfl
theorem setD_at {S : Sto} {n : Nat} {kvs : List (Key × V)} {v : V} {i : Int} (h : S[n]? = some (.dK kvs)) (hl : kvs.length < 16777216) : setD (.ref n) (.int i) v S = .ok () (S.set n (.dK (putK kvs (.inl i) v))) := by
  simp only [setD, rdK_at h, keyOf]
  exact if_pos hl
theorem DN.put {S : Sto} {n m : Nat} {f : Nat → Option Nat} (d : DN S n f m) (hm : m < 16777216) (i c : Nat) : ∃ S', setD (.ref n) (.int i) (.int c) S = .ok () S' ∧ Up [n] S S' ∧ S'.length = S.length ∧ DN S' n (fput f i c) (m + 1) := by
  obtain ⟨kvs, e, v, l⟩ := d
  refine ⟨_, setD_at e (by omega), Up.set (List.mem_singleton.mpr rfl) _, List.length_set .., _, sset_same e, fun j => ?_, by have := length_putK kvs (.inl (i : Int)) (V.int c); omega⟩
  rw [valV_put]
  unfold fput
  by_cases hj : j = i
  · subst hj; rw [if_pos rfl, if_pos rfl]; rfl
  · rw [if_neg hj, if_neg (fun h => hj (by injection h with h; omega))]; exact v j
theorem DN.new (S : Sto) : DN (S ++ [.dK []]) S.length (fun _ => none) 0 := ⟨[], snew _ _, fun _ => rfl, Nat.le_refl _⟩
/-! a dict of whole numbers or None by whole numbers, its keys in turn -/
structure CN (S : Sto) (n : Nat) (g : Nat → Option (Option Nat)) (ks : List Nat) : Prop where
  ex : ∃ kvs, S[n]? = some (.dK kvs) ∧ (∀ i : Nat, valV kvs (.inl (i : Int)) = (g i).map oV) ∧ kvs.map (·.1) = ks.map fun (k : Nat) => (.inl (k : Int) : Key)
theorem CN.upM {M : List Nat} {S S' : Sto} {n : Nat} {g : Nat → Option (Option Nat)} {ks : List Nat} (d : CN S n g ks) (h : Up M S S') (hn : n ∉ M) : CN S' n g ks := by
  obtain ⟨kvs, e, v, l⟩ := d
  exact ⟨kvs, h.at' n _ hn e, v, l⟩
theorem CN.up {S S' : Sto} {n : Nat} {g : Nat → Option (Option Nat)} {ks : List Nat} (d : CN S n g ks) (h : Up [] S S') : CN S' n g ks := d.upM h (fun h => nomatch h)
theorem CN.lt {S : Sto} {n : Nat} {g : Nat → Option (Option Nat)} {ks : List Nat} (d : CN S n g ks) : n < S.length := by
  obtain ⟨kvs, e, v, l⟩ := d
  exact slt e
theorem CN.get {S : Sto} {n i : Nat} {o : Option Nat} {g : Nat → Option (Option Nat)} {ks : List Nat} (d : CN S n g ks) (h : g i = some o) : dixM (.ref n) (.int i) S = .ok (oV o) S := by
  obtain ⟨kvs, e, v, l⟩ := d
  have := v i
  rw [h] at this
  unfold dixM
  rw [rdK_at e]
  simp only [keyOf, this, Option.map_some]
theorem CN.isin {S : Sto} {n : Nat} {g : Nat → Option (Option Nat)} {ks : List Nat} (d : CN S n g ks) (neg : Bool) (i : Nat) : dinM neg (.int i) (.ref n) S = .ok (.bl (if neg = true then !(g i).isSome else (g i).isSome)) S := by
  obtain ⟨kvs, e, v, l⟩ := d
  unfold dinM
  rw [rdK_at e]
  simp only [keyOf, v i, Option.isSome_map]
theorem CN.put {S : Sto} {n : Nat} {g : Nat → Option (Option Nat)} {ks : List Nat} (d : CN S n g ks) (hm : ks.length < 16777216) {i : Nat} (hi : g i = none) (c : Nat) : ∃ S', setD (.ref n) (.int i) (.int c) S = .ok () S' ∧ Up [n] S S' ∧ S'.length = S.length ∧ CN S' n (fput g i (some c)) (ks ++ [i]) := by
  obtain ⟨kvs, e, v, l⟩ := d
  have hl := congrArg List.length l
  rw [List.length_map, List.length_map] at hl
  have hn : valV kvs (.inl (i : Int)) = none := by rw [v i, hi]; rfl
  refine ⟨_, setD_at e (by omega), Up.set (List.mem_singleton.mpr rfl) _, List.length_set .., _, sset_same e, fun j => ?_, by rw [putK_new _ hn, List.map_append, List.map_append, l]; rfl⟩
  rw [valV_put]
  unfold fput
  by_cases hj : j = i
  · subst hj; rw [if_pos rfl, if_pos rfl]; rfl
  · rw [if_neg hj, if_neg (fun h => hj (by injection h with h; omega))]; exact v j
theorem intKeys_of : ∀ {kvs : List (Key × V)} {ks : List Nat}, kvs.map (·.1) = ks.map (fun (k : Nat) => (.inl (k : Int) : Key)) → intKeys kvs = some (ks.map fun (k : Nat) => (k : Int))
  | [], [], _ => rfl
  | [], _ :: _, h => by cases h
  | _ :: _, [], h => by cases h
  | (x, v) :: r, k :: ks, h => by
    rw [List.map_cons, List.map_cons] at h
    injection h with h1 h2
    have h1 : x = .inl (k : Int) := h1
    subst h1
    show (intKeys r).map (((k : Nat) : Int) :: ·) = _
    rw [intKeys_of h2]; rfl
theorem CN.sorted {S : Sto} {n : Nat} {g : Nat → Option (Option Nat)} {ks : List Nat} (d : CN S n g ks) (hl : ks.length < 64) : sortKM [.ref n] S = .ok (.ref S.length) (S ++ [.lst ((upS (ks.map fun (k : Nat) => (k : Int))).map V.int)]) := by
  obtain ⟨kvs, e, v, l⟩ := d
  unfold sortKM
  simp only [rdK_at e, intKeys_of l, List.length_map, if_pos hl]
  rfl
theorem CN.one (S : Sto) (k : Nat) : CN (S ++ [.dK [(.inl (k : Int), .non)]]) S.length (fun j => if j = k then some none else none) [k] := by
  refine ⟨_, snew _ _, fun j => ?_, rfl⟩
  by_cases h : j = k
  · subst h; rw [valV_pos rfl, if_pos rfl]; rfl
  · rw [valV_neg (fun e => h (by injection e with e; omega)), if_neg h]; rfl
/-! a dict by its keys alone -/
def DS (S : Sto) (n : Nat) (ks : List Nat) : Prop := ∃ kvs : List (Key × V), S[n]? = some (.dK kvs) ∧ kvs.map (·.1) = ks.map fun (k : Nat) => (.inl (k : Int) : Key)
theorem DS.upM {M : List Nat} {S S' : Sto} {n : Nat} {ks : List Nat} (d : DS S n ks) (h : Up M S S') (hn : n ∉ M) : DS S' n ks := by
  obtain ⟨kvs, e, l⟩ := d
  exact ⟨kvs, h.at' n _ hn e, l⟩
theorem DS.up {S S' : Sto} {n : Nat} {ks : List Nat} (d : DS S n ks) (h : Up [] S S') : DS S' n ks := d.upM h (fun h => nomatch h)
theorem DS.new (S : Sto) : DS (S ++ [.dK []]) S.length [] := ⟨[], snew _ _, rfl⟩
theorem valV_mem : ∀ {kvs : List (Key × V)} {ks : List Nat} (i : Nat), kvs.map (·.1) = ks.map (fun (k : Nat) => (.inl (k : Int) : Key)) → (valV kvs (.inl (i : Int))).isSome = decide (i ∈ ks)
  | [], [], i, _ => rfl
  | [], _ :: _, _, h => by cases h
  | _ :: _, [], _, h => by cases h
  | (x, v) :: r, k :: ks, i, h => by
    rw [List.map_cons, List.map_cons] at h
    injection h with h1 h2
    have h1 : x = .inl (k : Int) := h1
    subst h1
    by_cases e : k = i
    · subst e; rw [valV_pos rfl]; simp
    · rw [valV_neg (fun h => e (by injection h with h; omega)), valV_mem i h2]
      have : i ≠ k := fun h => e h.symm
      simp [this]
theorem DS.isin {S : Sto} {n : Nat} {ks : List Nat} (d : DS S n ks) (neg : Bool) (i : Nat) : dinM neg (.int i) (.ref n) S = .ok (.bl (if neg = true then !decide (i ∈ ks) else decide (i ∈ ks))) S := by
  obtain ⟨kvs, e, l⟩ := d
  unfold dinM
  rw [rdK_at e]
  simp only [keyOf, valV_mem i l]
theorem DS.len {S : Sto} {n : Nat} {ks : List Nat} (d : DS S n ks) : lenDM [.ref n] S = .ok (.int ks.length) S := by
  obtain ⟨kvs, e, l⟩ := d
  have hl := congrArg List.length l
  rw [List.length_map, List.length_map] at hl
  simp only [lenDM, rdK_at e, hl]
theorem DS.put {S : Sto} {n : Nat} {ks : List Nat} (d : DS S n ks) (hm : ks.length < 16777216) (i : Nat) (v : V) : ∃ S', setD (.ref n) (.int i) v S = .ok () S' ∧ Up [n] S S' ∧ S'.length = S.length ∧ DS S' n (if i ∈ ks then ks else ks ++ [i]) := by
  obtain ⟨kvs, e, l⟩ := d
  have hl := congrArg List.length l
  rw [List.length_map, List.length_map] at hl
  refine ⟨_, setD_at e (by omega), Up.set (List.mem_singleton.mpr rfl) _, List.length_set .., _, sset_same e, ?_⟩
  have hv := valV_mem i l
  by_cases hi : i ∈ ks
  · rw [if_pos hi, ← l]
    unfold putK
    rw [valV_any, hv, decide_eq_true hi, if_pos rfl, List.map_map]
    exact List.map_congr_left fun kv _ => by
      show (if kv.1 = .inl (i : Int) then (kv.1, v) else kv).1 = kv.1
      split <;> rfl
  · rw [if_neg hi]
    have hn : valV kvs (.inl (i : Int)) = none := by
      rw [decide_eq_false hi] at hv
      exact Option.isSome_eq_false_iff.mp hv |> Option.isNone_iff_eq_none.mp
    rw [putK_new _ hn, List.map_append, List.map_append, l]; rfl
/-! loops that may return -/
def Tr (r : R Fl) (Q : St → Sto → Prop) (Z : V → Sto → Prop) : Prop := match r with
  | .ok (.nx σ) S => Q σ S
  | .ok (.ct σ) S => Q σ S
  | .ok (.rt v) S => Z v S
  | _ => False
theorem Tr_nx (σ : St) (S : Sto) (Q : St → Sto → Prop) (Z : V → Sto → Prop) : Tr (.ok (.nx σ) S) Q Z = Q σ S := rfl
theorem Tr_rt (v : V) (S : Sto) (Q : St → Sto → Prop) (Z : V → Sto → Prop) : Tr (.ok (.rt v) S) Q Z = Z v S := rfl
theorem Tr.ex {r : R Fl} {Q : St → Sto → Prop} {Z : V → Sto → Prop} (h : Tr r Q Z) : (∃ σ S, (r = .ok (.nx σ) S ∨ r = .ok (.ct σ) S) ∧ Q σ S) ∨ ∃ v S, r = .ok (.rt v) S ∧ Z v S := by
  unfold Tr at h
  split at h
  · exact .inl ⟨_, _, .inl rfl, h⟩
  · exact .inl ⟨_, _, .inr rfl, h⟩
  · exact .inr ⟨_, _, rfl, h⟩
  · exact h.elim
theorem forM_ret {chk : Sto → Bool} {tg : Itm → St → Sto → R St} {ws : List Nat} {body : St → Sto → R Fl} {items : List Itm} (I : Nat → St → Sto → Prop) (Z : V → Sto → Prop) (hc : ∀ i σ S, I i σ S → chk S = true)
    (hs : ∀ i it σ S, items[i]? = some it → I i σ S → ∃ σ1, tg it σ S = .ok σ1 S ∧ Tr (body σ1 S) (fun σ2 S2 => I (i + 1) (wipe σ2 ws) S2) Z) {σ : St} {S : Sto} (h0 : I 0 σ S) :
    (∃ σ' S', forM chk tg ws body items σ S = .ok (.nx σ') S' ∧ I items.length σ' S') ∨ ∃ v S', forM chk tg ws body items σ S = .ok (.rt v) S' ∧ Z v S' := by
  have go : ∀ (k i : Nat) (σ : St) (S : Sto), items.length = i + k → I i σ S → (∃ σ' S', forM chk tg ws body (items.drop i) σ S = .ok (.nx σ') S' ∧ I items.length σ' S') ∨ ∃ v S', forM chk tg ws body (items.drop i) σ S = .ok (.rt v) S' ∧ Z v S' := by
    intro k
    induction k with
    | zero =>
      intro i σ S hk hI
      have : i = items.length := by omega
      subst this
      rw [List.drop_length]
      exact .inl ⟨σ, S, by simp [forM, hc _ _ _ hI], hI⟩
    | succ k ih =>
      intro i σ S hk hI
      have hi : i < items.length := by omega
      rw [List.drop_eq_getElem_cons hi, forM, if_pos (hc _ _ _ hI)]
      obtain ⟨σ1, h1, hT⟩ := hs i items[i] σ S (List.getElem?_eq_getElem hi) hI
      rw [h1, sE_ok]
      rcases hT.ex with ⟨σ2, S2, h2, h3⟩ | ⟨v, S2, h2, h3⟩
      · rcases h2 with h2 | h2
        · rw [h2]; exact ih (i + 1) _ _ (by omega) h3
        · rw [h2]; exact ih (i + 1) _ _ (by omega) h3
      · rw [h2]; exact .inr ⟨v, S2, rfl, h3⟩
  have := go items.length 0 σ S (by omega) h0
  rwa [List.drop_zero] at this
theorem whileM_ret {t : St → Sto → R Bool} {ws : List Nat} {body : St → Sto → R Fl} (I : St → Sto → Prop) (J : St → Sto → Prop) (Z : V → Sto → Prop) (μ : St → Sto → Nat)
    (hs : ∀ σ S, I σ S → (∃ S1, t σ S = .ok false S1 ∧ J σ S1) ∨ ∃ S1, t σ S = .ok true S1 ∧ Tr (body σ S1) (fun σ2 S2 => I (wipe σ2 ws) S2 ∧ μ (wipe σ2 ws) S2 < μ σ S) Z) {σ : St} {S : Sto} (h0 : I σ S) :
    (∃ σ' S', whileM t ws body σ S = .ok (.nx σ') S' ∧ J σ' S') ∨ ∃ v S', whileM t ws body σ S = .ok (.rt v) S' ∧ Z v S' := by
  have go : ∀ (n : Nat) (σ : St) (S : Sto), μ σ S ≤ n → I σ S → (∃ σ' S', whileM t ws body σ S = .ok (.nx σ') S' ∧ J σ' S') ∨ ∃ v S', whileM t ws body σ S = .ok (.rt v) S' ∧ Z v S' := by
    intro n
    induction n with
    | zero =>
      intro σ S hn hI
      rw [whileM_turn]
      rcases hs σ S hI with ⟨S1, h1, h2⟩ | ⟨S1, h1, hT⟩
      · rw [h1]; exact .inl ⟨σ, S1, rfl, h2⟩
      · rw [h1]
        dsimp only
        rcases hT.ex with ⟨σ2, S2, h2, h3, h4⟩ | ⟨v, S2, h2, h3⟩
        · omega
        · rw [h2]; exact .inr ⟨v, S2, rfl, h3⟩
    | succ n ih =>
      intro σ S hn hI
      rw [whileM_turn]
      rcases hs σ S hI with ⟨S1, h1, h2⟩ | ⟨S1, h1, hT⟩
      · rw [h1]; exact .inl ⟨σ, S1, rfl, h2⟩
      · rw [h1]
        dsimp only
        rcases hT.ex with ⟨σ2, S2, h2, h3, h4⟩ | ⟨v, S2, h2, h3⟩
        · rcases h2 with h2 | h2
          · rw [h2]; exact ih _ _ (by omega) h3
          · rw [h2]; exact ih _ _ (by omega) h3
        · rw [h2]; exact .inr ⟨v, S2, rfl, h3⟩
  exact go _ σ S (Nat.le_refl _) h0
/-! as many as there are places -/
theorem nodup_le {α β : Type} [DecidableEq β] (f : α → β) : ∀ {xs : List α} {ys : List β}, (xs.map f).Nodup → (∀ x ∈ xs, f x ∈ ys) → xs.length ≤ ys.length
  | [], _, _, _ => Nat.zero_le _
  | x :: xs, ys, h, hm => by
    rw [List.map_cons, List.nodup_cons] at h
    have hx := hm x List.mem_cons_self
    have := nodup_le f (xs := xs) (ys := ys.erase (f x)) h.2 (fun z hz => by
      refine (List.mem_erase_of_ne fun e => h.1 ?_).mpr (hm z (List.mem_cons_of_mem _ hz))
      rw [← e]; exact List.mem_map_of_mem hz)
    have hl := List.length_erase_of_mem hx
    have h0 := List.length_pos_of_mem hx
    rw [List.length_cons]; omega
end Fx
/-! Fx: dicts by tuples at work. -/
namespace Fx
open PySem L2
theorem eDnewT_eq (σ : St) (S : Sto) : eDnewT σ S = .ok (.ref S.length) (S ++ [.dT []]) := rfl
def exTP := And.intro @eDnewT_eq (And.intro @kGT1 (And.intro @kGT2 @kGT3))
theorem exT : type_of% exTP := exTP
theorem rdD_at {S : Sto} {n : Nat} {kvs : List (TK × V)} (h : S[n]? = some (.dT kvs)) : rdD (.ref n) S = some kvs := by simp only [rdD, h]
def tkI (ns : List Int) : TK := ns.map Sum.inl
theorem keysOf_ints : ∀ ns : List Int, keysOf (ns.map V.int) = some (tkI ns)
  | [] => rfl
  | n :: ns => by
    show ((keysOf (ns.map V.int)).map ((Sum.inl n : Key) :: ·)) = _
    rw [keysOf_ints ns]; rfl
theorem keyT_ints {S : Sto} {n : Nat} {ns : List Int} (h : S[n]? = some (.tup (ns.map V.int))) : keyT (.ref n) S = some (tkI ns) := by
  unfold keyT
  rw [rdT_tup h]
  exact keysOf_ints ns
theorem tkI_inj {a b : List Int} (h : tkI a = tkI b) : a = b := by
  unfold tkI at h
  exact List.map_inj_right (fun x y e => by injection e) |>.mp h
/-- a dict by tuples of ints, told by its keys alone -/
def DTS (S : Sto) (n : Nat) (ks : List (List Int)) : Prop := ∃ kvs : List (TK × V), S[n]? = some (.dT kvs) ∧ kvs.map (·.1) = ks.map tkI
theorem DTS.upM {M : List Nat} {S S' : Sto} {n : Nat} {ks : List (List Int)} (d : DTS S n ks) (h : Up M S S') (hn : n ∉ M) : DTS S' n ks := by
  obtain ⟨kvs, e, l⟩ := d
  exact ⟨kvs, h.at' n _ hn e, l⟩
theorem DTS.up {S S' : Sto} {n : Nat} {ks : List (List Int)} (d : DTS S n ks) (h : Up [] S S') : DTS S' n ks := d.upM h (fun h => nomatch h)
theorem DTS.new (S : Sto) : DTS (S ++ [.dT []]) S.length [] := ⟨[], snew _ _, rfl⟩
theorem valT_mem : ∀ {kvs : List (TK × V)} {ks : List (List Int)} (i : List Int), kvs.map (·.1) = ks.map tkI → (valV kvs (tkI i)).isSome = decide (i ∈ ks)
  | [], [], i, _ => rfl
  | [], _ :: _, _, h => by cases h
  | _ :: _, [], _, h => by cases h
  | (x, v) :: r, k :: ks, i, h => by
    rw [List.map_cons, List.map_cons] at h
    injection h with h1 h2
    have h1 : x = tkI k := h1
    subst h1
    by_cases e : k = i
    · subst e; rw [valV_pos rfl]; simp
    · rw [valV_neg (fun h => e (tkI_inj h)), valT_mem i h2]
      have : i ≠ k := fun h => e h.symm
      simp [this]
theorem DTS.isin {S : Sto} {n m : Nat} {ks : List (List Int)} (d : DTS S n ks) {i : List Int} (h : S[m]? = some (.tup (i.map V.int))) (neg : Bool) : dinT neg (.ref m) (.ref n) S = .ok (.bl (if neg = true then !decide (i ∈ ks) else decide (i ∈ ks))) S := by
  obtain ⟨kvs, e, l⟩ := d
  unfold dinT
  rw [rdD_at e]
  simp only [keyT_ints h, valT_mem i l]
theorem DTS.put {S : Sto} {n m : Nat} {ks : List (List Int)} (d : DTS S n ks) (hm : ks.length < 16777216) {i : List Int} (h : S[m]? = some (.tup (i.map V.int))) (hi : i ∉ ks) (v : V) : ∃ S', setT (.ref n) (.ref m) v S = .ok () S' ∧ Up [n] S S' ∧ S'.length = S.length ∧ DTS S' n (ks ++ [i]) := by
  obtain ⟨kvs, e, l⟩ := d
  have hl := congrArg List.length l
  rw [List.length_map, List.length_map] at hl
  have hn : valV kvs (tkI i) = none := by
    have := valT_mem i l
    rw [decide_eq_false hi] at this
    exact Option.isSome_eq_false_iff.mp this |> Option.isNone_iff_eq_none.mp
  refine ⟨S.set n (.dT (putK kvs (tkI i) v)), ?_, Up.set (List.mem_singleton.mpr rfl) _, List.length_set .., _, sset_same e, by rw [putK_new _ hn, List.map_append, List.map_append, l]; rfl⟩
  simp only [setT, rdD_at e, keyT_ints h]
  exact if_pos (show kvs.length < 16777216 by omega)
end Fx
namespace Lw
open PySem L2 Fx

noncomputable def e_sums_of_rows_1 : St → Sto → R V :=
  (eA sumM (aCons (eV 1) aNil))
noncomputable def c_sums_of_rows : St → Sto → R Fl :=
  (sRet (eComp (iL (eV 0)) (gI1 1) tYs e_sums_of_rows_1 [1]))
noncomputable def r_sums_of_rows : List V → Sto → R V := runF 2 c_sums_of_rows
theorem r_sums_of_rows_eq (a0 : V) (S : Sto) : r_sums_of_rows [a0] S = finF (c_sums_of_rows [some a0, none] S) := Eq.trans rfl rfl
noncomputable def e_turned_table_1 : St → Sto → R V :=
  (eO ixM (eV 3) (eV 2))
noncomputable def b_turned_table_1 : St → Sto → R Fl :=
  (sEx (eM isLs appM (eV 1) (aCons (eComp (iL (eV 0)) (gI1 3) tYs e_turned_table_1 [3]) aNil)))
noncomputable def c_turned_table : St → Sto → R Fl :=
  (sSq (sSet 1 (eLst aNil))
    (sSq (sFor (iR1 (aCons (eA lenM (aCons (eO ixM (eV 0) (eC (.int 0))) aNil)) aNil)) (gI1 2) [2] b_turned_table_1)
    (sRet (eV 1))))
noncomputable def r_turned_table : List V → Sto → R V := runF 4 c_turned_table
theorem r_turned_table_eq (a0 : V) (S : Sto) : r_turned_table [a0] S = finF (c_turned_table [some a0, none, none, none] S) := Eq.trans rfl rfl
noncomputable def c_sums_of_columns : St → Sto → R Fl :=
  (sRet (eCl 1 r_sums_of_rows (aCons (eCl 1 r_turned_table (aCons (eV 0) aNil)) aNil)))
noncomputable def r_sums_of_columns : List V → Sto → R V := runF 1 c_sums_of_columns
theorem r_sums_of_columns_eq (a0 : V) (S : Sto) : r_sums_of_columns [a0] S = finF (c_sums_of_columns [some a0] S) := Eq.trans rfl rfl
noncomputable def e_nodes_next_1 : St → Sto → R V :=
  (eTup (aCons (eC (.int 1)) (aCons (eV 6) aNil)))
noncomputable def p_nodes_next_1 : St → Sto → R Bool :=
  (tV (eO ltM (eO ixM (eO ixM (eV 1) (eV 5)) (eV 6)) (eO ixM (eO ixM (eV 3) (eV 5)) (eV 6))))
noncomputable def e_nodes_next_2 : St → Sto → R V :=
  (eTup (aCons (eC (.int 0)) (aCons (eV 7) aNil)))
noncomputable def p_nodes_next_2 : St → Sto → R Bool :=
  (tV (eO gtM (eO ixM (eO ixM (eV 1) (eV 7)) (eV 5)) (eO ixM (eO ixM (eV 2) (eV 7)) (eV 5))))
noncomputable def c_nodes_next : St → Sto → R Fl :=
  (sSq (sAs (gU [4, 5]) (eV 0))
    (sSq (sIf (tV (eO eqM (eV 4) (eC (.int 0))))
    (sRet (eComp (iR1 (aCons (eA lenM (aCons (eO ixM (eV 1) (eV 5)) aNil)) aNil)) (gI1 6) p_nodes_next_1 e_nodes_next_1 [6]))
    sNx)
    (sRet (eComp (iR1 (aCons (eA lenM (aCons (eV 1) aNil)) aNil)) (gI1 7) p_nodes_next_2 e_nodes_next_2 [7]))))
noncomputable def r_nodes_next : List V → Sto → R V := runF 8 c_nodes_next
theorem r_nodes_next_eq (a0 a1 a2 a3 : V) (S : Sto) : r_nodes_next [a0, a1, a2, a3] S = finF (c_nodes_next [some a0, some a1, some a2, some a3, none, none, none, none] S) := Eq.trans rfl rfl
noncomputable def b_reached_nodes_1 : St → Sto → R Fl :=
  (sIf (tV (eO gtM (eO ixM (eV 0) (eV 7)) (eC (.int 0))))
    (sSq (sAs (gSb (eV 5) (eTup (aCons (eC (.int 0)) (aCons (eV 7) aNil))) setT) (eC .non))
    (sEx (eM isLs appM (eV 6) (aCons (eTup (aCons (eC (.int 0)) (aCons (eV 7) aNil))) aNil))))
    sNx)
noncomputable def b_reached_nodes_2 : St → Sto → R Fl :=
  (sIf (tV (eO (dinT true) (eV 10) (eV 5)))
    (sSq (sAs (gSb (eV 5) (eV 10) setT) (eV 9))
    (sEx (eM isLs appM (eV 6) (aCons (eV 10) aNil))))
    sNx)
noncomputable def t_reached_nodes_1 : St → Sto → R Bool :=
  (tV (eO ltM (eV 8) (eA lenM (aCons (eV 6) aNil))))
noncomputable def b_reached_nodes_3 : St → Sto → R Fl :=
  (sSq (sSet 9 (eO ixM (eV 6) (eV 8)))
    (sSq (sIf (tAn (tV (eO eqM (eO ixM (eV 9) (eC (.int 0))) (eC (.int 1)))) (tV (eO gtM (eO ixM (eV 1) (eO ixM (eV 9) (eC (.int 1)))) (eC (.int 0)))))
    (sRet (eTup (aCons (eV 5) (aCons (eV 9) aNil))))
    sNx)
    (sSq (sFor (iL (eCl 4 r_nodes_next (aCons (eV 9) (aCons (eV 2) (aCons (eV 3) (aCons (eV 4) aNil)))))) (gI1 10) [10] b_reached_nodes_2)
    (sAug 8 ipAdd (eC (.int 1))))))
noncomputable def c_reached_nodes : St → Sto → R Fl :=
  (sSq (sSet 5 eDnewT)
    (sSq (sSet 6 (eLst aNil))
    (sSq (sFor (iR1 (aCons (eA lenM (aCons (eV 0) aNil)) aNil)) (gI1 7) [7] b_reached_nodes_1)
    (sSq (sSet 8 (eC (.int 0)))
    (sSq (sWh t_reached_nodes_1 [9, 10] b_reached_nodes_3)
    (sRet (eTup (aCons (eV 5) (aCons (eC .non) aNil)))))))))
noncomputable def r_reached_nodes : List V → Sto → R V := runF 11 c_reached_nodes
theorem r_reached_nodes_eq (a0 a1 a2 a3 a4 : V) (S : Sto) : r_reached_nodes [a0, a1, a2, a3, a4] S = finF (c_reached_nodes [some a0, some a1, some a2, some a3, some a4, none, none, none, none, none, none] S) := Eq.trans rfl rfl
noncomputable def t_way_back_1 : St → Sto → R Bool :=
  (tV (eO notNM (eV 1) (eC .non)))
noncomputable def b_way_back_1 : St → Sto → R Fl :=
  (sSq (sEx (eM isLs appM (eV 2) (aCons (eV 1) aNil)))
    (sSet 1 (eO dixT (eV 0) (eV 1))))
noncomputable def c_way_back : St → Sto → R Fl :=
  (sSq (sSet 2 (eLst aNil))
    (sSq (sWh t_way_back_1 [] b_way_back_1)
    (sRet (eLRv (eV 2)))))
noncomputable def r_way_back : List V → Sto → R V := runF 3 c_way_back
theorem r_way_back_eq (a0 a1 : V) (S : Sto) : r_way_back [a0, a1] S = finF (c_way_back [some a0, some a1, none] S) := Eq.trans rfl rfl
noncomputable def b_rooms_on_1 : St → Sto → R Fl :=
  (sIf (tV (eO eqM (eO ixM (eV 5) (eC (.int 0))) (eC (.int 0))))
    (sEx (eM isLs appM (eV 4) (aCons (eO subM (eO ixM (eO ixM (eV 3) (eO ixM (eV 5) (eC (.int 1)))) (eO ixM (eV 6) (eC (.int 1)))) (eO ixM (eO ixM (eV 1) (eO ixM (eV 5) (eC (.int 1)))) (eO ixM (eV 6) (eC (.int 1))))) aNil)))
    (sEx (eM isLs appM (eV 4) (aCons (eO subM (eO ixM (eO ixM (eV 1) (eO ixM (eV 6) (eC (.int 1)))) (eO ixM (eV 5) (eC (.int 1)))) (eO ixM (eO ixM (eV 2) (eO ixM (eV 6) (eC (.int 1)))) (eO ixM (eV 5) (eC (.int 1))))) aNil))))
noncomputable def c_rooms_on : St → Sto → R Fl :=
  (sSq (sSet 4 (eLst aNil))
    (sSq (sFor (iZ (aCons (eSl (eV 0) none (some (eU negM (eC (.int 1))))) (aCons (eSl (eV 0) (some (eC (.int 1))) none) aNil))) (gIT [5, 6]) [5, 6] b_rooms_on_1)
    (sRet (eV 4))))
noncomputable def r_rooms_on : List V → Sto → R V := runF 7 c_rooms_on
theorem r_rooms_on_eq (a0 a1 a2 a3 : V) (S : Sto) : r_rooms_on [a0, a1, a2, a3] S = finF (c_rooms_on [some a0, some a1, some a2, some a3, none, none, none] S) := Eq.trans rfl rfl
noncomputable def b_pushed_along_1 : St → Sto → R Fl :=
  (sIf (tV (eO eqM (eO ixM (eV 3) (eC (.int 0))) (eC (.int 0))))
    (sAugS (eO ixM (eV 1) (eO ixM (eV 3) (eC (.int 1)))) (eO ixM (eV 4) (eC (.int 1))) getL (eV 2) ipAdd setL)
    (sAugS (eO ixM (eV 1) (eO ixM (eV 4) (eC (.int 1)))) (eO ixM (eV 3) (eC (.int 1))) getL (eV 2) ipSub setL))
noncomputable def c_pushed_along : St → Sto → R Fl :=
  (sFor (iZ (aCons (eSl (eV 0) none (some (eU negM (eC (.int 1))))) (aCons (eSl (eV 0) (some (eC (.int 1))) none) aNil))) (gIT [3, 4]) [3, 4] b_pushed_along_1)
noncomputable def r_pushed_along : List V → Sto → R V := runF 5 c_pushed_along
theorem r_pushed_along_eq (a0 a1 a2 : V) (S : Sto) : r_pushed_along [a0, a1, a2] S = finF (c_pushed_along [some a0, some a1, some a2, none, none] S) := Eq.trans rfl rfl
noncomputable def e_cut_of_1 : St → Sto → R V :=
  (eO ixM (eV 2) (eC (.int 1)))
noncomputable def p_cut_of_1 : St → Sto → R Bool :=
  (tV (eO eqM (eO ixM (eV 2) (eC (.int 0))) (eC (.int 0))))
noncomputable def e_cut_of_2 : St → Sto → R V :=
  (eO ixM (eV 2) (eC (.int 1)))
noncomputable def p_cut_of_2 : St → Sto → R Bool :=
  (tV (eO eqM (eO ixM (eV 2) (eC (.int 0))) (eC (.int 1))))
noncomputable def c_cut_of : St → Sto → R Fl :=
  (sSq (sSet 1 (eA sortM (aCons (eCompK 0 (gI1 2) p_cut_of_1 e_cut_of_1 [2]) aNil)))
    (sRet (eTup (aCons (eC (.str (PySem.Str.ofString "cut"))) (aCons (eV 1) (aCons (eA sortM (aCons (eCompK 0 (gI1 2) p_cut_of_2 e_cut_of_2 [2]) aNil)) aNil))))))
noncomputable def r_cut_of : List V → Sto → R V := runF 3 c_cut_of
theorem r_cut_of_eq (a0 : V) (S : Sto) : r_cut_of [a0] S = finF (c_cut_of [some a0, none, none] S) := Eq.trans rfl rfl
noncomputable def p_cut_below_1 : St → Sto → R Bool :=
  (tV (eO neM (eV 3) (eV 2)))
noncomputable def b_cut_below_1 : St → Sto → R Fl :=
  (sIf (tV (eO ltM (eO ixM (eV 0) (eV 2)) (eC (.int 0))))
    (sRet (eTup (aCons (eC (.str (PySem.Str.ofString "cut"))) (aCons (eComp (iR1 (aCons (eA lenM (aCons (eV 0) aNil)) aNil)) (gI1 3) p_cut_below_1 (eV 3) [3]) (aCons (eLR1 (eA lenM (aCons (eV 1) aNil))) aNil)))))
    sNx)
noncomputable def b_cut_below_2 : St → Sto → R Fl :=
  (sIf (tV (eO ltM (eO ixM (eV 1) (eV 2)) (eC (.int 0))))
    (sRet (eTup (aCons (eC (.str (PySem.Str.ofString "cut"))) (aCons (eLst aNil) (aCons (eLst (aCons (eV 2) aNil)) aNil)))))
    sNx)
noncomputable def c_cut_below : St → Sto → R Fl :=
  (sSq (sFor (iR1 (aCons (eA lenM (aCons (eV 0) aNil)) aNil)) (gI1 2) [2] b_cut_below_1)
    (sSq (sFor (iR1 (aCons (eA lenM (aCons (eV 1) aNil)) aNil)) (gI1 2) [2] b_cut_below_2)
    (sRet (eC .non))))
noncomputable def r_cut_below : List V → Sto → R V := runF 4 c_cut_below
theorem r_cut_below_eq (a0 a1 : V) (S : Sto) : r_cut_below [a0, a1] S = finF (c_cut_below [some a0, some a1, none, none] S) := Eq.trans rfl rfl
noncomputable def e_filled_up_1 : St → Sto → R V :=
  (eA listM (aCons (eV 5) aNil))
noncomputable def t_filled_up_1 : St → Sto → R Bool :=
  (tV (eO notNM (eV 7) (eC .non)))
noncomputable def b_filled_up_1 : St → Sto → R Fl :=
  (sSq (sSet 8 (eCl 2 r_way_back (aCons (eV 6) (aCons (eV 7) aNil))))
    (sSq (sSet 9 (eO ixM (eO ixM (eV 8) (eC (.int 0))) (eC (.int 1))))
    (sSq (sSet 10 (eO ixM (eV 7) (eC (.int 1))))
    (sSq (sSet 11 (eA minM (aCons (eO addM (eCl 4 r_rooms_on (aCons (eV 8) (aCons (eV 4) (aCons (eV 2) (aCons (eV 3) aNil))))) (eLst (aCons (eO ixM (eV 0) (eV 9)) (aCons (eO ixM (eV 1) (eV 10)) aNil)))) aNil)))
    (sSq (sEx (eCl 3 r_pushed_along (aCons (eV 8) (aCons (eV 4) (aCons (eV 11) aNil)))))
    (sSq (sAugS (eV 0) (eV 9) getL (eV 11) ipSub setL)
    (sSq (sAugS (eV 1) (eV 10) getL (eV 11) ipSub setL)
    (sAs (gU [6, 7]) (eCl 5 r_reached_nodes (aCons (eV 0) (aCons (eV 1) (aCons (eV 4) (aCons (eV 2) (aCons (eV 3) aNil))))))))))))))
noncomputable def c_filled_up : St → Sto → R Fl :=
  (sSq (sSet 4 (eComp (iL (eV 2)) (gI1 5) tYs e_filled_up_1 [5]))
    (sSq (sAs (gU [6, 7]) (eCl 5 r_reached_nodes (aCons (eV 0) (aCons (eV 1) (aCons (eV 4) (aCons (eV 2) (aCons (eV 3) aNil)))))))
    (sSq (sWh t_filled_up_1 [8, 9, 10, 11] b_filled_up_1)
    (sSq (sIf (tV (eO gtM (eA lenDT (aCons (eV 6) aNil)) (eC (.int 0))))
    (sRet (eCl 1 r_cut_of (aCons (eV 6) aNil)))
    sNx)
    (sRet (eTup (aCons (eC (.str (PySem.Str.ofString "table"))) (aCons (eV 4) aNil))))))))
noncomputable def r_filled_up : List V → Sto → R V := runF 12 c_filled_up
theorem r_filled_up_eq (a0 a1 a2 a3 : V) (S : Sto) : r_filled_up [a0, a1, a2, a3] S = finF (c_filled_up [some a0, some a1, some a2, some a3, none, none, none, none, none, none, none, none] S) := Eq.trans rfl rfl
noncomputable def b_table_between_1 : St → Sto → R Fl :=
  (sIf (tV (eO gtM (eV 6) (eV 7)))
    (sRs "NoBounds")
    sNx)
noncomputable def b_table_between_2 : St → Sto → R Fl :=
  (sFor (iZ (aCons (eV 4) (aCons (eV 5) aNil))) (gIT [6, 7]) [6, 7] b_table_between_1)
noncomputable def e_table_between_1 : St → Sto → R V :=
  (eO subM (eV 6) (eV 7))
noncomputable def e_table_between_2 : St → Sto → R V :=
  (eO subM (eV 6) (eV 7))
noncomputable def c_table_between : St → Sto → R Fl :=
  (sSq (sFor (iZ (aCons (eV 2) (aCons (eV 3) aNil))) (gIT [4, 5]) [4, 5, 6, 7] b_table_between_2)
    (sSq (sIf (tV (eO neM (eA sumM (aCons (eV 0) aNil)) (eA sumM (aCons (eV 1) aNil))))
    (sRet (eTup (aCons (eC (.str (PySem.Str.ofString "unlike"))) (aCons (eA sumM (aCons (eV 0) aNil)) (aCons (eA sumM (aCons (eV 1) aNil)) aNil)))))
    sNx)
    (sSq (sSet 8 (eComp (iZ (aCons (eV 0) (aCons (eCl 1 r_sums_of_rows (aCons (eV 2) aNil)) aNil))) (gIT [6, 7]) tYs e_table_between_1 [6, 7]))
    (sSq (sSet 9 (eComp (iZ (aCons (eV 1) (aCons (eCl 1 r_sums_of_columns (aCons (eV 2) aNil)) aNil))) (gIT [6, 7]) tYs e_table_between_2 [6, 7]))
    (sSq (sSet 10 (eCl 2 r_cut_below (aCons (eV 8) (aCons (eV 9) aNil))))
    (sSq (sIf (tV (eO isNM (eV 10) (eC .non)))
    (sSet 10 (eCl 4 r_filled_up (aCons (eV 8) (aCons (eV 9) (aCons (eV 2) (aCons (eV 3) aNil))))))
    sNx)
    (sRet (eV 10))))))))
noncomputable def r_table_between : List V → Sto → R V := runF 11 c_table_between
theorem r_table_between_eq (a0 a1 a2 a3 : V) (S : Sto) : r_table_between [a0, a1, a2, a3] S = finF (c_table_between [some a0, some a1, some a2, some a3, none, none, none, none, none, none, none] S) := Eq.trans rfl rfl
noncomputable def e_one_changed_1 : St → Sto → R V :=
  (eComp (iR1 (aCons (eA lenM (aCons (eV 1) aNil)) aNil)) (gI1 6) tYs (eV 3) [6])
noncomputable def c_one_changed : St → Sto → R Fl :=
  (sSq (sSet 5 (eComp (iR1 (aCons (eA lenM (aCons (eV 0) aNil)) aNil)) (gI1 7) tYs e_one_changed_1 [7]))
    (sSq (sAs (gSb (eO ixM (eV 5) (eO ixM (eV 2) (eC (.int 0)))) (eO ixM (eV 2) (eC (.int 1))) setL) (eV 4))
    (sRet (eV 5))))
noncomputable def r_one_changed : List V → Sto → R V := runF 8 c_one_changed
theorem r_one_changed_eq (a0 a1 a2 a3 a4 : V) (S : Sto) : r_one_changed [a0, a1, a2, a3, a4] S = finF (c_one_changed [some a0, some a1, some a2, some a3, some a4, none, none, none] S) := Eq.trans rfl rfl
noncomputable def c_fate_of : St → Sto → R Fl :=
  (sSq (sIf (tO (tN (tV (eCh leM ltM (eC (.int 0)) (eO ixM (eV 2) (eC (.int 0))) (eA lenM (aCons (eV 0) aNil))))) (tN (tV (eCh leM ltM (eC (.int 0)) (eO ixM (eV 2) (eC (.int 1))) (eA lenM (aCons (eV 1) aNil))))))
    (sRs "NoPlace")
    sNx)
    (sSq (sSet 3 (eCl 5 r_one_changed (aCons (eV 0) (aCons (eV 1) (aCons (eV 2) (aCons (eC (.int 0)) (aCons (eC (.int 0)) aNil)))))))
    (sSq (sSet 4 (eCl 5 r_one_changed (aCons (eV 0) (aCons (eV 1) (aCons (eV 2) (aCons (eC (.int 1)) (aCons (eC (.int 1)) aNil)))))))
    (sSq (sSet 5 (eCl 4 r_table_between (aCons (eV 0) (aCons (eV 1) (aCons (eCl 5 r_one_changed (aCons (eV 0) (aCons (eV 1) (aCons (eV 2) (aCons (eC (.int 0)) (aCons (eC (.int 1)) aNil)))))) (aCons (eV 4) aNil))))))
    (sSq (sSet 6 (eCl 4 r_table_between (aCons (eV 0) (aCons (eV 1) (aCons (eV 3) (aCons (eCl 5 r_one_changed (aCons (eV 0) (aCons (eV 1) (aCons (eV 2) (aCons (eC (.int 1)) (aCons (eC (.int 0)) aNil)))))) aNil))))))
    (sSq (sIf (tAn (tV (eO neM (eO ixM (eV 5) (eC (.int 0))) (eC (.str (PySem.Str.ofString "table"))))) (tV (eO neM (eO ixM (eV 6) (eC (.int 0))) (eC (.str (PySem.Str.ofString "table"))))))
    (sRs "NoSums")
    sNx)
    (sSq (sIf (tV (eO neM (eO ixM (eV 5) (eC (.int 0))) (eC (.str (PySem.Str.ofString "table")))))
    (sRet (eTup (aCons (eC (.str (PySem.Str.ofString "zero"))) (aCons (eO ixM (eV 5) (eC (.int 1))) (aCons (eO ixM (eV 5) (eC (.int 2))) aNil)))))
    sNx)
    (sSq (sIf (tV (eO neM (eO ixM (eV 6) (eC (.int 0))) (eC (.str (PySem.Str.ofString "table")))))
    (sRet (eTup (aCons (eC (.str (PySem.Str.ofString "one"))) (aCons (eO ixM (eV 6) (eC (.int 1))) (aCons (eO ixM (eV 6) (eC (.int 2))) aNil)))))
    sNx)
    (sRet (eTup (aCons (eC (.str (PySem.Str.ofString "free"))) (aCons (eO ixM (eV 6) (eC (.int 1))) (aCons (eO ixM (eV 5) (eC (.int 1))) aNil)))))))))))))
noncomputable def r_fate_of : List V → Sto → R V := runF 7 c_fate_of
theorem r_fate_of_eq (a0 a1 a2 : V) (S : Sto) : r_fate_of [a0, a1, a2] S = finF (c_fate_of [some a0, some a1, some a2, none, none, none, none] S) := Eq.trans rfl rfl
noncomputable def c__law_whole : St → Sto → R Fl :=
  (sRet (eAn (eA isiM (aCons (eV 0) (aCons (eC (.ty "int")) aNil))) (eNo (eA isiM (aCons (eV 0) (aCons (eC (.ty "bool")) aNil))))))
noncomputable def r__law_whole : List V → Sto → R V := runF 1 c__law_whole
theorem r__law_whole_eq (a0 : V) (S : Sto) : r__law_whole [a0] S = finF (c__law_whole [some a0] S) := Eq.trans rfl rfl
noncomputable def b__law_deck_1 : St → Sto → R Fl :=
  (sSet 3 (eO modM (eO addM (eO mulM (eV 3) (eC (.int 48271))) (eV 4)) (eC (.int 2147483629))))
noncomputable def b__law_deck_2 : St → Sto → R Fl :=
  (sSq (sSet 3 (eO modM (eO addM (eO addM (eO mulM (eV 3) (eC (.int 69621))) (eC (.int 7))) (eV 5)) (eC (.int 2147483647))))
    (sIf (tV (eO ltM (eV 5) (eA lenM (aCons (eV 0) aNil))))
    (sEx (eM isLs appM (eV 2) (aCons (eO modM (eO ixM (eV 0) (eV 5)) (eO powM (eC (.int 10)) (eC (.int 18)))) aNil)))
    (sEx (eM isLs appM (eV 2) (aCons (eV 3) aNil)))))
noncomputable def c__law_deck : St → Sto → R Fl :=
  (sSq (sSet 2 (eLst aNil))
    (sSq (sSet 3 (eO addM (eC (.int 4711)) (eA lenM (aCons (eV 0) aNil))))
    (sSq (sFor (iL (eV 0)) (gI1 4) [4] b__law_deck_1)
    (sSq (sFor (iR1 (aCons (eV 1) aNil)) (gI1 5) [5] b__law_deck_2)
    (sRet (eV 2))))))
noncomputable def r__law_deck : List V → Sto → R V := runF 6 c__law_deck
theorem r__law_deck_eq (a0 a1 : V) (S : Sto) : r__law_deck [a0, a1] S = finF (c__law_deck [some a0, some a1, none, none, none, none] S) := Eq.trans rfl rfl
noncomputable def c__law_shape : St → Sto → R Fl :=
  (sSq (sIf (tV (eO eqM (eO modM (eV 0) (eC (.int 16))) (eC (.int 7))))
    (sRet (eLst (aCons (eO addM (eC (.int 1)) (eO modM (eO fdivM (eV 0) (eC (.int 16))) (eC (.int 8)))) (aCons (eO addM (eC (.int 1)) (eO modM (eO fdivM (eV 0) (eC (.int 128))) (eC (.int 8)))) aNil))))
    sNx)
    (sRet (eLst (aCons (eO addM (eC (.int 1)) (eO modM (eO fdivM (eV 0) (eC (.int 16))) (eC (.int 5)))) (aCons (eO addM (eC (.int 1)) (eO modM (eO fdivM (eV 0) (eC (.int 128))) (eC (.int 5)))) aNil)))))
noncomputable def r__law_shape : List V → Sto → R V := runF 1 c__law_shape
theorem r__law_shape_eq (a0 : V) (S : Sto) : r__law_shape [a0] S = finF (c__law_shape [some a0] S) := Eq.trans rfl rfl
noncomputable def e__law_ones_1 : St → Sto → R V :=
  (eO modM (eO fdivM (eO fdivM (eV 7) (eC (.int 16))) (eO addM (eC (.int 1)) (eO mulM (eC (.int 3)) (eV 9)))) (eC (.int 2)))
noncomputable def e__law_ones_2 : St → Sto → R V :=
  (eA intM (aCons (eO ltM (eV 9) (eV 8)) aNil))
noncomputable def b__law_ones_1 : St → Sto → R Fl :=
  (sSq (sSet 7 (eO ixM (eV 1) (eO addM (eC (.int 8)) (eV 6))))
    (sSq (sSet 8 (eO modM (eV 7) (eO addM (eV 3) (eC (.int 1)))))
    (sIf (tV (eO eqM (eV 4) (eC (.int 0))))
    (sEx (eM isLs appM (eV 5) (aCons (eComp (iR1 (aCons (eV 3) aNil)) (gI1 9) tYs e__law_ones_1 [9]) aNil)))
    (sEx (eM isLs appM (eV 5) (aCons (eComp (iR1 (aCons (eV 3) aNil)) (gI1 9) tYs e__law_ones_2 [9]) aNil))))))
noncomputable def e__law_ones_3 : St → Sto → R V :=
  (eO addM (eSl (eV 10) (some (eO modM (eV 6) (eV 3))) none) (eSl (eV 10) none (some (eO modM (eV 6) (eV 3)))))
noncomputable def b__law_ones_2 : St → Sto → R Fl :=
  (sSq (sSet 10 (eO ixM (eV 5) (eO modM (eV 11) (eV 2))))
    (sSq (sSet 12 (eO modM (eO fdivM (eV 11) (eV 2)) (eV 3)))
    (sAs (gSb (eV 10) (eV 12) setL) (eO modM (eO addM (eO ixM (eV 10) (eV 12)) (eO fdivM (eO ixM (eV 0) (eV 11)) (eC (.int 5)))) (eC (.int 2))))))
noncomputable def c__law_ones : St → Sto → R Fl :=
  (sSq (sAs (gU [2, 3]) (eCl 1 r__law_shape (aCons (eO ixM (eV 1) (eC (.int 0))) aNil)))
    (sSq (sSet 4 (eO modM (eO ixM (eV 1) (eC (.int 1))) (eC (.int 4))))
    (sSq (sSet 5 (eLst aNil))
    (sSq (sFor (iR1 (aCons (eV 2) aNil)) (gI1 6) [6, 7, 8] b__law_ones_1)
    (sSq (sIf (tV (eO eqM (eV 4) (eC (.int 2))))
    (sSet 5 (eComp (iEn (eV 5)) (gIT [6, 10]) tYs e__law_ones_3 [6, 10]))
    sNx)
    (sSq (sIf (tV (eO neM (eV 4) (eC (.int 1))))
    (sFor (iR1 (aCons (eA lenM (aCons (eV 0) aNil)) aNil)) (gI1 11) [10, 11, 12] b__law_ones_2)
    sNx)
    (sRet (eV 5))))))))
noncomputable def r__law_ones : List V → Sto → R V := runF 13 c__law_ones
theorem r__law_ones_eq (a0 a1 : V) (S : Sto) : r__law_ones [a0, a1] S = finF (c__law_ones [some a0, some a1, none, none, none, none, none, none, none, none, none, none, none] S) := Eq.trans rfl rfl
noncomputable def e__law_sums_1 : St → Sto → R V :=
  (eO ixM (eV 3) (eV 2))
noncomputable def b__law_sums_1 : St → Sto → R Fl :=
  (sEx (eM isLs appM (eV 1) (aCons (eA sumM (aCons (eComp (iL (eV 0)) (gI1 3) tYs e__law_sums_1 [3]) aNil)) aNil)))
noncomputable def e__law_sums_2 : St → Sto → R V :=
  (eA sumM (aCons (eV 3) aNil))
noncomputable def c__law_sums : St → Sto → R Fl :=
  (sSq (sSet 1 (eLst aNil))
    (sSq (sFor (iR1 (aCons (eA lenM (aCons (eO ixM (eV 0) (eC (.int 0))) aNil)) aNil)) (gI1 2) [2] b__law_sums_1)
    (sRet (eLst (aCons (eComp (iL (eV 0)) (gI1 3) tYs e__law_sums_2 [3]) (aCons (eV 1) aNil))))))
noncomputable def r__law_sums : List V → Sto → R V := runF 4 c__law_sums
theorem r__law_sums_eq (a0 : V) (S : Sto) : r__law_sums [a0] S = finF (c__law_sums [some a0, none, none, none] S) := Eq.trans rfl rfl
noncomputable def b__law_rising_1 : St → Sto → R Fl :=
  (sIf (tO (tN (tV (eCl 1 r__law_whole (aCons (eO ixM (eV 0) (eV 2)) aNil)))) (tO (tN (tV (eCh leM ltM (eC (.int 0)) (eO ixM (eV 0) (eV 2)) (eV 1)))) (tAn (tV (eO gtM (eV 2) (eC (.int 0)))) (tV (eO geM (eO ixM (eV 0) (eO subM (eV 2) (eC (.int 1)))) (eO ixM (eV 0) (eV 2)))))))
    (sRet (eC (.bl false)))
    sNx)
noncomputable def c__law_rising : St → Sto → R Fl :=
  (sSq (sIf (tN (tV (eA isiM (aCons (eV 0) (aCons (eC (.ty "list")) aNil)))))
    (sRet (eC (.bl false)))
    sNx)
    (sSq (sFor (iR1 (aCons (eA lenM (aCons (eV 0) aNil)) aNil)) (gI1 2) [2] b__law_rising_1)
    (sRet (eC (.bl true)))))
noncomputable def r__law_rising : List V → Sto → R V := runF 3 c__law_rising
theorem r__law_rising_eq (a0 a1 : V) (S : Sto) : r__law_rising [a0, a1] S = finF (c__law_rising [some a0, some a1, none] S) := Eq.trans rfl rfl
noncomputable def e__law_bars_1 : St → Sto → R V :=
  (eO ixM (eV 3) (eV 7))
noncomputable def b__law_bars_1 : St → Sto → R Fl :=
  (sSq (sIf (tAn (tV (eO (inM false) (eV 8) (eV 0))) (tV (eO (inM true) (eV 7) (eV 1))))
    (sSet 6 (eO addM (eV 6) (eO ixM (eO ixM (eV 5) (eV 8)) (eV 7))))
    sNx)
    (sIf (tAn (tV (eO (inM true) (eV 8) (eV 0))) (tV (eO (inM false) (eV 7) (eV 1))))
    (sSet 6 (eO subM (eV 6) (eO ixM (eO ixM (eV 4) (eV 8)) (eV 7))))
    sNx))
noncomputable def b__law_bars_2 : St → Sto → R Fl :=
  (sFor (iR1 (aCons (eA lenM (aCons (eV 3) aNil)) aNil)) (gI1 7) [7] b__law_bars_1)
noncomputable def e__law_bars_2 : St → Sto → R V :=
  (eO ixM (eV 2) (eV 8))
noncomputable def c__law_bars : St → Sto → R Fl :=
  (sSq (sIf (tO (tN (tV (eCl 2 r__law_rising (aCons (eV 0) (aCons (eA lenM (aCons (eV 2) aNil)) aNil))))) (tN (tV (eCl 2 r__law_rising (aCons (eV 1) (aCons (eA lenM (aCons (eV 3) aNil)) aNil))))))
    (sRet (eC (.bl false)))
    sNx)
    (sSq (sSet 6 (eA sumM (aCons (eComp (iL (eV 1)) (gI1 7) tYs e__law_bars_1 [7]) aNil)))
    (sSq (sFor (iR1 (aCons (eA lenM (aCons (eV 2) aNil)) aNil)) (gI1 8) [7, 8] b__law_bars_2)
    (sRet (eO gtM (eA sumM (aCons (eComp (iL (eV 0)) (gI1 8) tYs e__law_bars_2 [8]) aNil)) (eV 6))))))
noncomputable def r__law_bars : List V → Sto → R V := runF 9 c__law_bars
theorem r__law_bars_eq (a0 a1 a2 a3 a4 a5 : V) (S : Sto) : r__law_bars [a0, a1, a2, a3, a4, a5] S = finF (c__law_bars [some a0, some a1, some a2, some a3, some a4, some a5, none, none, none] S) := Eq.trans rfl rfl
noncomputable def b__law_lies_1 : St → Sto → R Fl :=
  (sIf (tO (tN (tV (eCl 1 r__law_whole (aCons (eV 5) aNil)))) (tV (eO (inM true) (eV 5) (eLst (aCons (eC (.int 0)) (aCons (eC (.int 1)) aNil))))))
    (sRet (eC (.bl false)))
    sNx)
noncomputable def b__law_lies_2 : St → Sto → R Fl :=
  (sSq (sIf (tO (tN (tV (eA isiM (aCons (eV 4) (aCons (eC (.ty "list")) aNil))))) (tV (eO neM (eA lenM (aCons (eV 4) aNil)) (eA lenM (aCons (eO ixM (eV 1) (eC (.int 1))) aNil)))))
    (sRet (eC (.bl false)))
    sNx)
    (sFor (iL (eV 4)) (gI1 5) [5] b__law_lies_1))
noncomputable def c__law_lies : St → Sto → R Fl :=
  (sSq (sIf (tO (tN (tV (eA isiM (aCons (eV 0) (aCons (eC (.ty "list")) aNil))))) (tV (eO neM (eA lenM (aCons (eV 0) aNil)) (eA lenM (aCons (eO ixM (eV 1) (eC (.int 0))) aNil)))))
    (sRet (eC (.bl false)))
    sNx)
    (sSq (sFor (iL (eV 0)) (gI1 4) [4, 5] b__law_lies_2)
    (sRet (eAn (eO eqM (eCl 1 r__law_sums (aCons (eV 0) aNil)) (eV 1)) (eO eqM (eO ixM (eO ixM (eV 0) (eO ixM (eV 2) (eC (.int 0)))) (eO ixM (eV 2) (eC (.int 1)))) (eV 3))))))
noncomputable def r__law_lies : List V → Sto → R V := runF 6 c__law_lies
theorem r__law_lies_eq (a0 a1 a2 a3 : V) (S : Sto) : r__law_lies [a0, a1, a2, a3] S = finF (c__law_lies [some a0, some a1, some a2, some a3, none, none] S) := Eq.trans rfl rfl
noncomputable def e__law_frame_1 : St → Sto → R V :=
  (eComp (iL (eO ixM (eV 0) (eC (.int 1)))) (gI1 5) tYs (eV 1) [5])
noncomputable def c__law_frame : St → Sto → R Fl :=
  (sSq (sSet 4 (eComp (iL (eO ixM (eV 0) (eC (.int 0)))) (gI1 6) tYs e__law_frame_1 [6]))
    (sSq (sAs (gSb (eO ixM (eV 4) (eO ixM (eV 2) (eC (.int 0)))) (eO ixM (eV 2) (eC (.int 1))) setL) (eV 3))
    (sRet (eV 4))))
noncomputable def r__law_frame : List V → Sto → R V := runF 7 c__law_frame
theorem r__law_frame_eq (a0 a1 a2 a3 : V) (S : Sto) : r__law_frame [a0, a1, a2, a3] S = finF (c__law_frame [some a0, some a1, some a2, some a3, none, none, none] S) := Eq.trans rfl rfl
noncomputable def c__law_right : St → Sto → R Fl :=
  (sSq (sIf (tO (tN (tV (eA isiM (aCons (eV 0) (aCons (eC (.ty "tuple")) aNil))))) (tV (eO neM (eA lenM (aCons (eV 0) aNil)) (eC (.int 3)))))
    (sRet (eC (.bl false)))
    sNx)
    (sSq (sIf (tV (eO eqM (eO ixM (eV 0) (eC (.int 0))) (eC (.str (PySem.Str.ofString "free")))))
    (sRet (eAn (eCl 4 r__law_lies (aCons (eO ixM (eV 0) (eC (.int 1))) (aCons (eV 1) (aCons (eV 2) (aCons (eC (.int 0)) aNil))))) (eCl 4 r__law_lies (aCons (eO ixM (eV 0) (eC (.int 2))) (aCons (eV 1) (aCons (eV 2) (aCons (eC (.int 1)) aNil)))))))
    sNx)
    (sSq (sSet 3 (eC (.int 0)))
    (sSq (sSet 4 (eC (.int 0)))
    (sSq (sIf (tV (eO eqM (eO ixM (eV 0) (eC (.int 0))) (eC (.str (PySem.Str.ofString "zero")))))
    (sSq (sSet 3 (eC (.int 1)))
    (sSet 4 (eC (.int 1))))
    (sIf (tV (eO neM (eO ixM (eV 0) (eC (.int 0))) (eC (.str (PySem.Str.ofString "one")))))
    (sRet (eC (.bl false)))
    sNx))
    (sSq (sSet 5 (eCl 4 r__law_frame (aCons (eV 1) (aCons (eC (.int 0)) (aCons (eV 2) (aCons (eV 3) aNil))))))
    (sRet (eCl 6 r__law_bars (aCons (eO ixM (eV 0) (eC (.int 1))) (aCons (eO ixM (eV 0) (eC (.int 2))) (aCons (eO ixM (eV 1) (eC (.int 0))) (aCons (eO ixM (eV 1) (eC (.int 1))) (aCons (eV 5) (aCons (eCl 4 r__law_frame (aCons (eV 1) (aCons (eC (.int 1)) (aCons (eV 2) (aCons (eV 4) aNil))))) aNil))))))))))))))
noncomputable def r__law_right : List V → Sto → R V := runF 6 c__law_right
theorem r__law_right_eq (a0 a1 a2 : V) (S : Sto) : r__law_right [a0, a1, a2] S = finF (c__law_right [some a0, some a1, some a2, none, none, none] S) := Eq.trans rfl rfl
noncomputable def u__law_seen_1 : String → St → St :=
  (uSeq (uAddMul 2 2 4 (fun c => (fun c => subE c "NoPlace") c || (fun c => if fAny ["NoTable", "NoBottom", "NotAlike", "NoStep", "NoMix", "NotEven"] c = true then true else fAny ["NoSwap", "NoBounds", "TooGreat", "NoNumber", "NoText"] c) c)) uNil)
noncomputable def u__law_seen_2 : String → St → St :=
  (uSeq (uAddMul 2 1 4 (fun c => (fun c => subE c "NoSums") c || (fun c => if fAny ["NoTable", "NoBottom", "NotAlike", "NoStep", "NoMix", "NotEven"] c = true then true else fAny ["NoSwap", "NoBounds", "TooGreat", "NoNumber", "NoText"] c) c)) uNil)
noncomputable def c__law_seen : St → Sto → R Fl :=
  (sSq (sSet 2 (eC (.int 0)))
    (sSq (sTryM ["NoBounds", "NoPlace", "NoSums"] [.nm "NoPlace" 3 u__law_seen_2, .nm "NoSums" 3 u__law_seen_1, .pl "MixError" (sSet 2 (eC (.int 4)))]
    (sEx (eCl 3 r_fate_of (aCons (eO ixM (eV 0) (eC (.int 0))) (aCons (eO ixM (eV 0) (eC (.int 1))) (aCons (eV 1) aNil))))))
    (sRet (eV 2))))
noncomputable def r__law_seen : List V → Sto → R V := runF 4 c__law_seen
theorem r__law_seen_eq (a0 a1 : V) (S : Sto) : r__law_seen [a0, a1] S = finF (c__law_seen [some a0, some a1, none, none] S) := Eq.trans rfl rfl
noncomputable def c__law_caught : St → Sto → R Fl :=
  (sSq (sTryR ["NoBounds", "NoPlace", "NoSums"] "MixError" 2
    (sEx (eCl 3 r_fate_of (aCons (eO ixM (eV 0) (eC (.int 0))) (aCons (eO ixM (eV 0) (eC (.int 1))) (aCons (eV 1) aNil)))))
    (fYes))
    (sRet (eC (.bl false))))
noncomputable def r__law_caught : List V → Sto → R V := runF 3 c__law_caught
theorem r__law_caught_eq (a0 a1 : V) (S : Sto) : r__law_caught [a0, a1] S = finF (c__law_caught [some a0, some a1, none] S) := Eq.trans rfl rfl
noncomputable def c__law_spoiled : St → Sto → R Fl :=
  (sSq (sSet 2 (eA listM (aCons (eO ixM (eV 0) (eC (.int 0))) aNil)))
    (sSq (sSet 3 (eA listM (aCons (eO ixM (eV 0) (eC (.int 1))) aNil)))
    (sSq (sSet 4 (eO modM (eO fdivM (eV 1) (eC (.int 2))) (eA lenM (aCons (eV 2) aNil))))
    (sSq (sIf (tV (eO eqM (eO modM (eV 1) (eC (.int 2))) (eC (.int 0))))
    (sAs (gSb (eV 2) (eV 4) setL) (eO addM (eO ixM (eV 2) (eV 4)) (eC (.int 1))))
    (sSq (sSet 5 (eO modM (eO fdivM (eV 1) (eC (.int 16))) (eA lenM (aCons (eV 3) aNil))))
    (sSq (sAs (gSb (eV 3) (eV 5) setL) (eO subM (eO addM (eO addM (eO ixM (eV 3) (eV 5)) (eA lenM (aCons (eV 3) aNil))) (eC (.int 1))) (eO ixM (eV 2) (eV 4))))
    (sAs (gSb (eV 2) (eV 4) setL) (eO addM (eA lenM (aCons (eV 3) aNil)) (eC (.int 1)))))))
    (sRet (eLst (aCons (eV 2) (aCons (eV 3) aNil))))))))
noncomputable def r__law_spoiled : List V → Sto → R V := runF 6 c__law_spoiled
theorem r__law_spoiled_eq (a0 a1 : V) (S : Sto) : r__law_spoiled [a0, a1] S = finF (c__law_spoiled [some a0, some a1, none, none, none, none] S) := Eq.trans rfl rfl
noncomputable def c__law_odd : St → Sto → R Fl :=
  (sSq (sSet 2 (eA lenM (aCons (eO ixM (eV 0) (eC (.int 0))) aNil)))
    (sSq (sSet 3 (eA lenM (aCons (eO ixM (eV 0) (eC (.int 1))) aNil)))
    (sSq (sSet 4 (eO ixM (eLst (aCons (eO modM (eO fdivM (eV 1) (eC (.int 16))) (eV 2)) (aCons (eU negM (eC (.int 1))) (aCons (eO subM (eC (.int 0)) (eV 2)) (aCons (eV 2) (aCons (eO powM (eC (.int 10)) (eC (.int 18))) (aCons (eO subM (eC (.int 0)) (eO powM (eC (.int 10)) (eC (.int 18)))) aNil))))))) (eO modM (eV 1) (eC (.int 6)))))
    (sSq (sIf (tV (eO gtM (eO modM (eV 1) (eC (.int 6))) (eC (.int 0))))
    (sRet (eTup (aCons (eV 4) (aCons (eO modM (eO fdivM (eV 1) (eC (.int 128))) (eV 3)) aNil))))
    sNx)
    (sRet (eTup (aCons (eV 4) (aCons (eO ixM (eLst (aCons (eU negM (eC (.int 1))) (aCons (eV 3) (aCons (eO subM (eC (.int 0)) (eV 3)) (aCons (eO addM (eV 3) (eC (.int 1))) aNil))))) (eO modM (eO fdivM (eV 1) (eC (.int 6))) (eC (.int 4)))) aNil))))))))
noncomputable def r__law_odd : List V → Sto → R V := runF 5 c__law_odd
theorem r__law_odd_eq (a0 a1 : V) (S : Sto) : r__law_odd [a0, a1] S = finF (c__law_odd [some a0, some a1, none, none, none] S) := Eq.trans rfl rfl
noncomputable def e__law_apart_1 : St → Sto → R V :=
  (eA listM (aCons (eV 3) aNil))
noncomputable def b__law_apart_1 : St → Sto → R Fl :=
  (sEx (eM0 isLs clearM (eV 3)))
noncomputable def b__law_apart_2 : St → Sto → R Fl :=
  (sEx (eM0 isLs clearM (eV 3)))
noncomputable def c__law_apart : St → Sto → R Fl :=
  (sSq (sSet 2 (eComp (iL (eV 1)) (gI1 3) tYs e__law_apart_1 [3]))
    (sSq (sFor (iL (eV 0)) (gI1 3) [3] b__law_apart_1)
    (sSq (sIf (tV (eO neM (eV 1) (eV 2)))
    (sRet (eC (.bl false)))
    sNx)
    (sSq (sFor (iL (eV 1)) (gI1 3) [3] b__law_apart_2)
    (sRet (eC (.bl true)))))))
noncomputable def r__law_apart : List V → Sto → R V := runF 4 c__law_apart
theorem r__law_apart_eq (a0 a1 : V) (S : Sto) : r__law_apart [a0, a1] S = finF (c__law_apart [some a0, some a1, none, none] S) := Eq.trans rfl rfl
noncomputable def c__law_refused : St → Sto → R Fl :=
  (sSq (sSet 3 (eLst (aCons (eA listM (aCons (eO ixM (eV 0) (eC (.int 0))) aNil)) (aCons (eA listM (aCons (eO ixM (eV 0) (eC (.int 1))) aNil)) aNil))))
    (sRet (eAn (eO eqM (eCl 2 r__law_seen (aCons (eV 3) (aCons (eV 1) aNil))) (eV 2)) (eAn (eCl 2 r__law_caught (aCons (eV 3) (aCons (eV 1) aNil))) (eO eqM (eV 3) (eV 0))))))
noncomputable def r__law_refused : List V → Sto → R V := runF 4 c__law_refused
theorem r__law_refused_eq (a0 a1 a2 : V) (S : Sto) : r__law_refused [a0, a1, a2] S = finF (c__law_refused [some a0, some a1, some a2, none] S) := Eq.trans rfl rfl
noncomputable def b_law_1 : St → Sto → R Fl :=
  (sEx (eM0 isLs clearM (eV 10)))
noncomputable def b_law_2 : St → Sto → R Fl :=
  (sSq (sSet 6 (eTup (aCons (eO modM (eO ixM (eV 1) (eO addM (eC (.int 4)) (eV 5))) (eA lenM (aCons (eO ixM (eV 2) (eC (.int 0))) aNil))) (aCons (eO modM (eO fdivM (eO ixM (eV 1) (eO addM (eC (.int 4)) (eV 5))) (eC (.int 8))) (eA lenM (aCons (eO ixM (eV 2) (eC (.int 1))) aNil))) aNil))))
    (sSq (sSet 7 (eLst (aCons (eA listM (aCons (eO ixM (eV 2) (eC (.int 0))) aNil)) (aCons (eA listM (aCons (eO ixM (eV 2) (eC (.int 1))) aNil)) aNil))))
    (sSq (sSet 8 (eCl 3 r_fate_of (aCons (eO ixM (eV 7) (eC (.int 0))) (aCons (eO ixM (eV 7) (eC (.int 1))) (aCons (eV 6) aNil)))))
    (sSq (sIf (tO (tN (tV (eCl 3 r__law_right (aCons (eV 8) (aCons (eV 2) (aCons (eV 6) aNil)))))) (tO (tV (eO neM (eV 7) (eV 2))) (tN (tV (eCl 3 r__law_refused (aCons (eV 3) (aCons (eV 6) (aCons (eC (.int 2)) aNil))))))))
    (sRet (eC (.bl false)))
    sNx)
    (sSq (sSet 9 (eO ixM (eV 8) (eC (.int 0))))
    (sSq (sIf (tAn (tV (eO eqM (eV 9) (eC (.str (PySem.Str.ofString "free"))))) (tN (tV (eCl 2 r__law_apart (aCons (eO ixM (eV 8) (eC (.int 1))) (aCons (eO ixM (eV 8) (eC (.int 2))) aNil))))))
    (sRet (eC (.bl false)))
    sNx)
    (sSq (sFor (iT (eSl (eV 8) (some (eC (.int 1))) none)) (gI1 10) [10] b_law_1)
    (sSq (sSet 11 (eCl 3 r_fate_of (aCons (eO ixM (eV 2) (eC (.int 0))) (aCons (eO ixM (eV 2) (eC (.int 1))) (aCons (eV 6) aNil)))))
    (sIf (tO (tV (eO neM (eO ixM (eV 11) (eC (.int 0))) (eV 9))) (tN (tV (eCl 3 r__law_right (aCons (eV 11) (aCons (eV 2) (aCons (eV 6) aNil)))))))
    (sRet (eC (.bl false)))
    sNx)))))))))
noncomputable def c_law : St → Sto → R Fl :=
  (sSq (sSet 1 (eCl 2 r__law_deck (aCons (eV 0) (aCons (eC (.int 16)) aNil))))
    (sSq (sSet 2 (eCl 1 r__law_sums (aCons (eCl 2 r__law_ones (aCons (eV 0) (aCons (eV 1) aNil))) aNil)))
    (sSq (sSet 3 (eCl 2 r__law_spoiled (aCons (eV 2) (aCons (eO ixM (eV 1) (eC (.int 2))) aNil))))
    (sSq (sSet 4 (eCl 2 r__law_odd (aCons (eV 2) (aCons (eO ixM (eV 1) (eC (.int 3))) aNil))))
    (sSq (sIf (tO (tN (tV (eCl 3 r__law_refused (aCons (eV 2) (aCons (eV 4) (aCons (eC (.int 1)) aNil)))))) (tN (tV (eCl 3 r__law_refused (aCons (eV 3) (aCons (eV 4) (aCons (eC (.int 1)) aNil)))))))
    (sRet (eC (.bl false)))
    sNx)
    (sSq (sFor (iR1 (aCons (eC (.int 3)) aNil)) (gI1 5) [5, 6, 7, 8, 9, 10, 11] b_law_2)
    (sRet (eC (.bl true)))))))))
noncomputable def r_law : List V → Sto → R V := runF 12 c_law
theorem r_law_eq (a0 : V) (S : Sto) : r_law [a0] S = finF (c_law [some a0, none, none, none, none, none, none, none, none, none, none, none] S) := Eq.trans rfl rfl
end Lw
namespace Lw
open PySem L2 Fx
theorem whole_spec {S : Sto} (n : Int) : r__law_whole [.int n] S = .ok (.bl true) S := by
  simp only [r__law_whole_eq, c__law_whole, ev, isi_int, isi_nbool]

theorem deck_spec {S : Sto} {ns : List Int} (h : rdL (.ref 0) S = some (ns.map V.int)) (hl : ns.length ≤ 63) {m : Nat} (hm : m ≤ 1000000) :
    ∃ (ds : List Int) (S' : Sto) (b : Nat), ds.length = m ∧ (∀ d ∈ ds, 0 ≤ d ∧ d < 1000000000000000000) ∧ r__law_deck [.ref 0, .int m] S = .ok (.ref b) S' ∧ Up [] S S' ∧ S.length ≤ b ∧ S'[b]? = some (.lst (ds.map V.int)) := by
  simp (decide := true) only [r__law_deck_eq, c__law_deck, ev, rdLT_of h, lenM_at (rdLT_of h), List.length_map]
  have h' := rdL_up (Up.app [] S [.lst []]) h
  simp (decide := true) only [ev, lenM_at (rdLT_of h'), h', items_int, List.length_map]
  obtain ⟨σ1, S1, e1, ⟨x, rfl⟩, rfl⟩ := forM_inv (chk := chkL (.ref 0) (ns.map V.int)) (tg := gI1 4) (ws := [4]) (body := b__law_deck_1) (items := ns.map oneI)
    (fun _ σ S' => (∃ x : Int, σ = [some (.ref 0), some (.int m), some (.ref S.length), some (.int x), none, none]) ∧ S' = S ++ [.lst []]) (fun _ _ _ e => by rw [e.2]; exact chkL_of h')
    (fun i it σ S' hx e => by
      obtain ⟨⟨x, rfl⟩, rfl⟩ := e
      rw [List.getElem?_map] at hx
      obtain ⟨y, hy, rfl⟩ := Option.map_eq_some_iff.mp hx
      refine ⟨_, gI1_one _ _ _ _, ?_⟩
      simp (decide := true) only [b__law_deck_1, ev, Tn_nx]
      exact ⟨⟨_, rfl⟩, trivial⟩) (σ := [some (.ref 0), some (.int m), some (.ref S.length), some (.int (4711 + (ns.length : Int))), none, none]) (S := S ++ [.lst []]) ⟨⟨_, rfl⟩, rfl⟩
  simp only [e1, ev]
  rw [rng1_ok (by omega), items_rng, Int.toNat_natCast]
  simp only [ev]
  obtain ⟨σ2, S2, e2, ⟨y, rfl⟩, p2, ds, hd, hb, q2⟩ := forM_inv (chk := chkY) (tg := gI1 5) (ws := [5]) (body := b__law_deck_2) (items := (List.range m).map (oneR 0))
    (fun i σ S' => (∃ x : Int, σ = [some (.ref 0), some (.int m), some (.ref S.length), some (.int x), none, none]) ∧ Up [] S S' ∧ ∃ ds : List Int, ds.length = i ∧ (∀ d ∈ ds, 0 ≤ d ∧ d < 1000000000000000000) ∧ S'[S.length]? = some (.lst (ds.map V.int))) (fun _ _ _ _ => rfl)
    (fun i it σ S' hx e => by
      obtain ⟨⟨x, rfl⟩, p, ds, hd, hb, q⟩ := e
      rw [List.getElem?_map] at hx
      obtain ⟨y, hy, rfl⟩ := Option.map_eq_some_iff.mp hx
      obtain ⟨hi, rfl⟩ := rng_at hy
      have h'' := rdL_up p h
      refine ⟨_, gI1_one _ _ _ _, ?_⟩
      simp (decide := true) only [b__law_deck_2, ev, lenM_at (rdLT_of h''), List.length_map]
      by_cases hk : (0 : Int) + (i : Int) < (ns.length : Int)
      · have hv : ns[((0 : Int) + (i : Int)).toNat]? = some (ns.getD ((0 : Int) + (i : Int)).toNat 0) := by
          rw [List.getD_eq_getElem?_getD, List.getElem?_eq_getElem (by omega)]; rfl
        simp (decide := true) only [hk, decide_true, ev, isLs_of (rdL_lst q), ixQ_int (rdLT_of h'') (show (0 : Int) ≤ 0 + (i : Int) by omega) (show (ns.map V.int)[((0 : Int) + (i : Int)).toNat]? = _ by rw [List.getElem?_map, hv]; rfl)]
        simp only [ev, appM_at q (by rw [List.length_map]; omega), Tn_nx]
        refine ⟨⟨_, rfl⟩, p.setNew (Nat.le_refl _) _, ds ++ [_], by simp [hd], ?_, by rw [sset_same q, List.map_append]; rfl⟩
        intro d hd'
        rcases List.mem_append.mp hd' with h' | h'
        · exact hb d h'
        · rw [List.mem_singleton.mp h']; (try simp only [Int.reduceToNat, Int.reducePow]); omega
      · simp only [hk, decide_false, ev, isLs_of (rdL_lst q), appM_at q (by rw [List.length_map]; omega), Tn_nx]
        refine ⟨⟨_, rfl⟩, p.setNew (Nat.le_refl _) _, ds ++ [_], by simp [hd], ?_, by rw [sset_same q, List.map_append]; rfl⟩
        intro d hd'
        rcases List.mem_append.mp hd' with h' | h'
        · exact hb d h'
        · rw [List.mem_singleton.mp h']; (try simp only [Int.reduceToNat, Int.reducePow]); omega) (σ := [some (.ref 0), some (.int m), some (.ref S.length), some (.int x), none, none]) (S := S ++ [.lst []]) ⟨⟨_, rfl⟩, Up.app _ _ _, [], rfl, (fun _ h => nomatch h), snew _ _⟩
  rw [e2]
  simp only [ev]
  exact ⟨ds, S2, S.length, by simpa using hd, hb, rfl, p2, Nat.le_refl _, q2⟩

theorem eqB_str {s t : Str} (h1 : SeqAt.shaped (.str s) = true) (h2 : SeqAt.shaped (.str t) = true) (S : Sto) : eqB (.str s) (.str t) S = some (decide (s = t)) := by
  show (if SeqAt.shaped (.str s) = true ∧ SeqAt.shaped (.str t) = true then some (PyData.eqv (.str s) (.str t)) else none) = _
  rw [if_pos ⟨h1, h2⟩]
  rfl
theorem eqM_str {s t : Str} (h1 : SeqAt.shaped (.str s) = true) (h2 : SeqAt.shaped (.str t) = true) (S : Sto) : eqM (.str s) (.str t) S = .ok (.bl (decide (s = t))) S := by unfold eqM; rw [eqB_str h1 h2]
theorem neM_str {s t : Str} (h1 : SeqAt.shaped (.str s) = true) (h2 : SeqAt.shaped (.str t) = true) (S : Sto) : neM (.str s) (.str t) S = .ok (.bl (!decide (s = t))) S := by unfold neM; rw [eqB_str h1 h2]
theorem shD : SeqAt.shaped (.str (PySem.Str.ofString "dealing")) = true := by decide +kernel
theorem shS : SeqAt.shaped (.str (PySem.Str.ofString "short")) = true := by decide +kernel
theorem shE : SeqAt.shaped (.str (PySem.Str.ofString "")) = true := by decide +kernel
theorem dS_ne : (PySem.Str.ofString "short" = PySem.Str.ofString "dealing") = False := eq_false (by decide +kernel)
theorem dE_ne : (PySem.Str.ofString "dealing" = PySem.Str.ofString "") = False := eq_false (by decide +kernel)
theorem sE_ne : (PySem.Str.ofString "short" = PySem.Str.ofString "") = False := eq_false (by decide +kernel)

/-! words -/
theorem sh_unlike : SeqAt.shaped (.str (PySem.Str.ofString "unlike")) = true := by decide +kernel
theorem sh_table : SeqAt.shaped (.str (PySem.Str.ofString "table")) = true := by decide +kernel
theorem sh_cut : SeqAt.shaped (.str (PySem.Str.ofString "cut")) = true := by decide +kernel
theorem sh_free : SeqAt.shaped (.str (PySem.Str.ofString "free")) = true := by decide +kernel
theorem sh_zero : SeqAt.shaped (.str (PySem.Str.ofString "zero")) = true := by decide +kernel
theorem sh_one : SeqAt.shaped (.str (PySem.Str.ofString "one")) = true := by decide +kernel
theorem sh_rows : SeqAt.shaped (.str (PySem.Str.ofString "rows")) = true := by decide +kernel
theorem sh_columns : SeqAt.shaped (.str (PySem.Str.ofString "columns")) = true := by decide +kernel
theorem sh_bar : SeqAt.shaped (.str (PySem.Str.ofString "bar")) = true := by decide +kernel
theorem sh_steps : SeqAt.shaped (.str (PySem.Str.ofString "steps")) = true := by decide +kernel
theorem eqW_unlike (S : Sto) : eqM (.str (PySem.Str.ofString "unlike")) (.str (PySem.Str.ofString "unlike")) S = .ok (.bl true) S := by rw [eqM_str sh_unlike sh_unlike, decide_eq_true rfl]
theorem neW_unlike (S : Sto) : neM (.str (PySem.Str.ofString "unlike")) (.str (PySem.Str.ofString "unlike")) S = .ok (.bl false) S := by rw [neM_str sh_unlike sh_unlike, decide_eq_true rfl]; rfl
theorem eqW_table (S : Sto) : eqM (.str (PySem.Str.ofString "table")) (.str (PySem.Str.ofString "table")) S = .ok (.bl true) S := by rw [eqM_str sh_table sh_table, decide_eq_true rfl]
theorem neW_table (S : Sto) : neM (.str (PySem.Str.ofString "table")) (.str (PySem.Str.ofString "table")) S = .ok (.bl false) S := by rw [neM_str sh_table sh_table, decide_eq_true rfl]; rfl
theorem eqW_cut (S : Sto) : eqM (.str (PySem.Str.ofString "cut")) (.str (PySem.Str.ofString "cut")) S = .ok (.bl true) S := by rw [eqM_str sh_cut sh_cut, decide_eq_true rfl]
theorem neW_cut (S : Sto) : neM (.str (PySem.Str.ofString "cut")) (.str (PySem.Str.ofString "cut")) S = .ok (.bl false) S := by rw [neM_str sh_cut sh_cut, decide_eq_true rfl]; rfl
theorem eqW_free (S : Sto) : eqM (.str (PySem.Str.ofString "free")) (.str (PySem.Str.ofString "free")) S = .ok (.bl true) S := by rw [eqM_str sh_free sh_free, decide_eq_true rfl]
theorem neW_free (S : Sto) : neM (.str (PySem.Str.ofString "free")) (.str (PySem.Str.ofString "free")) S = .ok (.bl false) S := by rw [neM_str sh_free sh_free, decide_eq_true rfl]; rfl
theorem eqW_zero (S : Sto) : eqM (.str (PySem.Str.ofString "zero")) (.str (PySem.Str.ofString "zero")) S = .ok (.bl true) S := by rw [eqM_str sh_zero sh_zero, decide_eq_true rfl]
theorem neW_zero (S : Sto) : neM (.str (PySem.Str.ofString "zero")) (.str (PySem.Str.ofString "zero")) S = .ok (.bl false) S := by rw [neM_str sh_zero sh_zero, decide_eq_true rfl]; rfl
theorem eqW_one (S : Sto) : eqM (.str (PySem.Str.ofString "one")) (.str (PySem.Str.ofString "one")) S = .ok (.bl true) S := by rw [eqM_str sh_one sh_one, decide_eq_true rfl]
theorem neW_one (S : Sto) : neM (.str (PySem.Str.ofString "one")) (.str (PySem.Str.ofString "one")) S = .ok (.bl false) S := by rw [neM_str sh_one sh_one, decide_eq_true rfl]; rfl
theorem eqW_rows (S : Sto) : eqM (.str (PySem.Str.ofString "rows")) (.str (PySem.Str.ofString "rows")) S = .ok (.bl true) S := by rw [eqM_str sh_rows sh_rows, decide_eq_true rfl]
theorem neW_rows (S : Sto) : neM (.str (PySem.Str.ofString "rows")) (.str (PySem.Str.ofString "rows")) S = .ok (.bl false) S := by rw [neM_str sh_rows sh_rows, decide_eq_true rfl]; rfl
theorem eqW_columns (S : Sto) : eqM (.str (PySem.Str.ofString "columns")) (.str (PySem.Str.ofString "columns")) S = .ok (.bl true) S := by rw [eqM_str sh_columns sh_columns, decide_eq_true rfl]
theorem neW_columns (S : Sto) : neM (.str (PySem.Str.ofString "columns")) (.str (PySem.Str.ofString "columns")) S = .ok (.bl false) S := by rw [neM_str sh_columns sh_columns, decide_eq_true rfl]; rfl
theorem eqW_bar (S : Sto) : eqM (.str (PySem.Str.ofString "bar")) (.str (PySem.Str.ofString "bar")) S = .ok (.bl true) S := by rw [eqM_str sh_bar sh_bar, decide_eq_true rfl]
theorem neW_bar (S : Sto) : neM (.str (PySem.Str.ofString "bar")) (.str (PySem.Str.ofString "bar")) S = .ok (.bl false) S := by rw [neM_str sh_bar sh_bar, decide_eq_true rfl]; rfl
theorem eqW_steps (S : Sto) : eqM (.str (PySem.Str.ofString "steps")) (.str (PySem.Str.ofString "steps")) S = .ok (.bl true) S := by rw [eqM_str sh_steps sh_steps, decide_eq_true rfl]
theorem neW_steps (S : Sto) : neM (.str (PySem.Str.ofString "steps")) (.str (PySem.Str.ofString "steps")) S = .ok (.bl false) S := by rw [neM_str sh_steps sh_steps, decide_eq_true rfl]; rfl
theorem eqW_table_cut (S : Sto) : eqM (.str (PySem.Str.ofString "table")) (.str (PySem.Str.ofString "cut")) S = .ok (.bl false) S := by rw [eqM_str sh_table sh_cut, decide_eq_false (by decide +kernel)]
theorem neW_table_cut (S : Sto) : neM (.str (PySem.Str.ofString "table")) (.str (PySem.Str.ofString "cut")) S = .ok (.bl true) S := by rw [neM_str sh_table sh_cut, decide_eq_false (by decide +kernel)]; rfl
theorem eqW_cut_table (S : Sto) : eqM (.str (PySem.Str.ofString "cut")) (.str (PySem.Str.ofString "table")) S = .ok (.bl false) S := by rw [eqM_str sh_cut sh_table, decide_eq_false (by decide +kernel)]
theorem neW_cut_table (S : Sto) : neM (.str (PySem.Str.ofString "cut")) (.str (PySem.Str.ofString "table")) S = .ok (.bl true) S := by rw [neM_str sh_cut sh_table, decide_eq_false (by decide +kernel)]; rfl
theorem eqW_table_unlike (S : Sto) : eqM (.str (PySem.Str.ofString "table")) (.str (PySem.Str.ofString "unlike")) S = .ok (.bl false) S := by rw [eqM_str sh_table sh_unlike, decide_eq_false (by decide +kernel)]
theorem neW_table_unlike (S : Sto) : neM (.str (PySem.Str.ofString "table")) (.str (PySem.Str.ofString "unlike")) S = .ok (.bl true) S := by rw [neM_str sh_table sh_unlike, decide_eq_false (by decide +kernel)]; rfl
theorem eqW_unlike_table (S : Sto) : eqM (.str (PySem.Str.ofString "unlike")) (.str (PySem.Str.ofString "table")) S = .ok (.bl false) S := by rw [eqM_str sh_unlike sh_table, decide_eq_false (by decide +kernel)]
theorem neW_unlike_table (S : Sto) : neM (.str (PySem.Str.ofString "unlike")) (.str (PySem.Str.ofString "table")) S = .ok (.bl true) S := by rw [neM_str sh_unlike sh_table, decide_eq_false (by decide +kernel)]; rfl
theorem eqW_free_zero (S : Sto) : eqM (.str (PySem.Str.ofString "free")) (.str (PySem.Str.ofString "zero")) S = .ok (.bl false) S := by rw [eqM_str sh_free sh_zero, decide_eq_false (by decide +kernel)]
theorem neW_free_zero (S : Sto) : neM (.str (PySem.Str.ofString "free")) (.str (PySem.Str.ofString "zero")) S = .ok (.bl true) S := by rw [neM_str sh_free sh_zero, decide_eq_false (by decide +kernel)]; rfl
theorem eqW_zero_free (S : Sto) : eqM (.str (PySem.Str.ofString "zero")) (.str (PySem.Str.ofString "free")) S = .ok (.bl false) S := by rw [eqM_str sh_zero sh_free, decide_eq_false (by decide +kernel)]
theorem neW_zero_free (S : Sto) : neM (.str (PySem.Str.ofString "zero")) (.str (PySem.Str.ofString "free")) S = .ok (.bl true) S := by rw [neM_str sh_zero sh_free, decide_eq_false (by decide +kernel)]; rfl
theorem eqW_free_one (S : Sto) : eqM (.str (PySem.Str.ofString "free")) (.str (PySem.Str.ofString "one")) S = .ok (.bl false) S := by rw [eqM_str sh_free sh_one, decide_eq_false (by decide +kernel)]
theorem neW_free_one (S : Sto) : neM (.str (PySem.Str.ofString "free")) (.str (PySem.Str.ofString "one")) S = .ok (.bl true) S := by rw [neM_str sh_free sh_one, decide_eq_false (by decide +kernel)]; rfl
theorem eqW_one_free (S : Sto) : eqM (.str (PySem.Str.ofString "one")) (.str (PySem.Str.ofString "free")) S = .ok (.bl false) S := by rw [eqM_str sh_one sh_free, decide_eq_false (by decide +kernel)]
theorem neW_one_free (S : Sto) : neM (.str (PySem.Str.ofString "one")) (.str (PySem.Str.ofString "free")) S = .ok (.bl true) S := by rw [neM_str sh_one sh_free, decide_eq_false (by decide +kernel)]; rfl
theorem eqW_zero_one (S : Sto) : eqM (.str (PySem.Str.ofString "zero")) (.str (PySem.Str.ofString "one")) S = .ok (.bl false) S := by rw [eqM_str sh_zero sh_one, decide_eq_false (by decide +kernel)]
theorem neW_zero_one (S : Sto) : neM (.str (PySem.Str.ofString "zero")) (.str (PySem.Str.ofString "one")) S = .ok (.bl true) S := by rw [neM_str sh_zero sh_one, decide_eq_false (by decide +kernel)]; rfl
theorem eqW_one_zero (S : Sto) : eqM (.str (PySem.Str.ofString "one")) (.str (PySem.Str.ofString "zero")) S = .ok (.bl false) S := by rw [eqM_str sh_one sh_zero, decide_eq_false (by decide +kernel)]
theorem neW_one_zero (S : Sto) : neM (.str (PySem.Str.ofString "one")) (.str (PySem.Str.ofString "zero")) S = .ok (.bl true) S := by rw [neM_str sh_one sh_zero, decide_eq_false (by decide +kernel)]; rfl
theorem eqW_table_rows (S : Sto) : eqM (.str (PySem.Str.ofString "table")) (.str (PySem.Str.ofString "rows")) S = .ok (.bl false) S := by rw [eqM_str sh_table sh_rows, decide_eq_false (by decide +kernel)]
theorem neW_table_rows (S : Sto) : neM (.str (PySem.Str.ofString "table")) (.str (PySem.Str.ofString "rows")) S = .ok (.bl true) S := by rw [neM_str sh_table sh_rows, decide_eq_false (by decide +kernel)]; rfl
theorem eqW_rows_table (S : Sto) : eqM (.str (PySem.Str.ofString "rows")) (.str (PySem.Str.ofString "table")) S = .ok (.bl false) S := by rw [eqM_str sh_rows sh_table, decide_eq_false (by decide +kernel)]
theorem neW_rows_table (S : Sto) : neM (.str (PySem.Str.ofString "rows")) (.str (PySem.Str.ofString "table")) S = .ok (.bl true) S := by rw [neM_str sh_rows sh_table, decide_eq_false (by decide +kernel)]; rfl
theorem eqW_table_columns (S : Sto) : eqM (.str (PySem.Str.ofString "table")) (.str (PySem.Str.ofString "columns")) S = .ok (.bl false) S := by rw [eqM_str sh_table sh_columns, decide_eq_false (by decide +kernel)]
theorem neW_table_columns (S : Sto) : neM (.str (PySem.Str.ofString "table")) (.str (PySem.Str.ofString "columns")) S = .ok (.bl true) S := by rw [neM_str sh_table sh_columns, decide_eq_false (by decide +kernel)]; rfl
theorem eqW_columns_table (S : Sto) : eqM (.str (PySem.Str.ofString "columns")) (.str (PySem.Str.ofString "table")) S = .ok (.bl false) S := by rw [eqM_str sh_columns sh_table, decide_eq_false (by decide +kernel)]
theorem neW_columns_table (S : Sto) : neM (.str (PySem.Str.ofString "columns")) (.str (PySem.Str.ofString "table")) S = .ok (.bl true) S := by rw [neM_str sh_columns sh_table, decide_eq_false (by decide +kernel)]; rfl
theorem eqW_rows_columns (S : Sto) : eqM (.str (PySem.Str.ofString "rows")) (.str (PySem.Str.ofString "columns")) S = .ok (.bl false) S := by rw [eqM_str sh_rows sh_columns, decide_eq_false (by decide +kernel)]
theorem neW_rows_columns (S : Sto) : neM (.str (PySem.Str.ofString "rows")) (.str (PySem.Str.ofString "columns")) S = .ok (.bl true) S := by rw [neM_str sh_rows sh_columns, decide_eq_false (by decide +kernel)]; rfl
theorem eqW_columns_rows (S : Sto) : eqM (.str (PySem.Str.ofString "columns")) (.str (PySem.Str.ofString "rows")) S = .ok (.bl false) S := by rw [eqM_str sh_columns sh_rows, decide_eq_false (by decide +kernel)]
theorem neW_columns_rows (S : Sto) : neM (.str (PySem.Str.ofString "columns")) (.str (PySem.Str.ofString "rows")) S = .ok (.bl true) S := by rw [neM_str sh_columns sh_rows, decide_eq_false (by decide +kernel)]; rfl
theorem eqW_bar_steps (S : Sto) : eqM (.str (PySem.Str.ofString "bar")) (.str (PySem.Str.ofString "steps")) S = .ok (.bl false) S := by rw [eqM_str sh_bar sh_steps, decide_eq_false (by decide +kernel)]
theorem neW_bar_steps (S : Sto) : neM (.str (PySem.Str.ofString "bar")) (.str (PySem.Str.ofString "steps")) S = .ok (.bl true) S := by rw [neM_str sh_bar sh_steps, decide_eq_false (by decide +kernel)]; rfl
theorem eqW_steps_bar (S : Sto) : eqM (.str (PySem.Str.ofString "steps")) (.str (PySem.Str.ofString "bar")) S = .ok (.bl false) S := by rw [eqM_str sh_steps sh_bar, decide_eq_false (by decide +kernel)]
theorem neW_steps_bar (S : Sto) : neM (.str (PySem.Str.ofString "steps")) (.str (PySem.Str.ofString "bar")) S = .ok (.bl true) S := by rw [neM_str sh_steps sh_bar, decide_eq_false (by decide +kernel)]; rfl
theorem eqW_bar_table (S : Sto) : eqM (.str (PySem.Str.ofString "bar")) (.str (PySem.Str.ofString "table")) S = .ok (.bl false) S := by rw [eqM_str sh_bar sh_table, decide_eq_false (by decide +kernel)]
theorem neW_bar_table (S : Sto) : neM (.str (PySem.Str.ofString "bar")) (.str (PySem.Str.ofString "table")) S = .ok (.bl true) S := by rw [neM_str sh_bar sh_table, decide_eq_false (by decide +kernel)]; rfl
theorem eqW_table_bar (S : Sto) : eqM (.str (PySem.Str.ofString "table")) (.str (PySem.Str.ofString "bar")) S = .ok (.bl false) S := by rw [eqM_str sh_table sh_bar, decide_eq_false (by decide +kernel)]
theorem neW_table_bar (S : Sto) : neM (.str (PySem.Str.ofString "table")) (.str (PySem.Str.ofString "bar")) S = .ok (.bl true) S := by rw [neM_str sh_table sh_bar, decide_eq_false (by decide +kernel)]; rfl

theorem turned_table_spec {S : Sto} {a w : Nat} {P : Rws} (t : Tb S a P) (hR : Rect w (rowsOf P)) (h0 : P ≠ []) (w8 : w ≤ 1000) :
    ∃ (Q : Rws) (S' : Sto) (b : Nat), rowsOf Q = turn (rowsOf P) ∧ r_turned_table [.ref a] S = .ok (.ref b) S' ∧ Up [] S S' ∧ S.length ≤ b ∧ Tb S' b Q ∧ Fr S.length S' Q := by
  obtain ⟨p0, P', rfl⟩ := List.exists_cons_of_ne_nil h0
  have t1 := t.up (Up.app [] S [.lst []])
  have hw : p0.2.length = w := rect_of hR List.mem_cons_self
  have hwd : wide (rowsOf (p0 :: P')) = w := hw
  generalize hP : p0 :: P' = P at *
  have hp0 : P[(0 : Int).toNat]? = some p0 := by rw [← hP]; rfl
  have hm : p0 ∈ P := List.mem_of_getElem? hp0
  simp only [r_turned_table_eq, c_turned_table, ev, t1.ix (Int.le_refl 0) hp0, lenM_at (t1.rdrT hm), List.length_map, hw]
  rw [rng1_ok (by omega), items_rng, Int.toNat_natCast]
  simp only [ev]
  obtain ⟨S1, e1, p1, Q, hQ, q1, f1⟩ := forM_at (chk := chkY) (tg := gI1 2) (ws := [2]) (body := b_turned_table_1) (xs := List.range w) (oneR 0)
    (fun _ => [some (.ref a), some (.ref S.length), none, none])
    (fun i S' => Up [] S S' ∧ ∃ Q : Rws, rowsOf Q = (List.range i).map (fun k => (rowsOf P).map fun row => row.getD k 0) ∧ S'[S.length]? = some (.lst (Q.map fun p => V.ref p.1)) ∧ Fr S.length S' Q ∧ ∀ q ∈ Q, q.1 ≠ S.length) (fun _ _ _ => rfl)
    (fun i x S' hx hI => by
      obtain ⟨p, Q, hQ, q, f, fn⟩ := hI
      obtain ⟨hi, rfl⟩ := rng_at hx
      have tt := t.up p
      refine ⟨_, gI1_one _ _ _ _, ?_⟩
      simp only [b_turned_table_1, ev, tt.rd, items_tb, isLs_of (rdL_lst q)]
      have hQl : Q.length = i := by rw [← rows_len, hQ]; simp
      rw [compM_pure (α := Nat × List Int) oneP (fun p => .int (p.2.getD i 0)) (chkL_of tt.rd) (fun x hx => ⟨_, gI1_one _ _ _ _, by
        have hx1 := rect_of hR hx
        have := rix (i := 0 + (i : Int)) (tt.row x hx) (by omega) (by omega)
        rw [show ((0 : Int) + (i : Int)).toNat = i by omega] at this
        simp only [e_turned_table_1, ev, this]⟩)]
      have q3 := Up.get (Up.app [] S' [.lst (P.map fun p => .int (p.2.getD i 0))]) q
      simp only [ev, appM_at q3 (by rw [List.length_map]; omega), Tn_nx]
      refine ⟨trivial, (p.trans (Up.app _ _ _)).setNew (Nat.le_refl _) _, Q ++ [(S'.length, P.map fun p => p.2.getD i 0)], ?_, by rw [sset_same q3, List.map_append]; rfl, ?_, ?_⟩
      · rw [rowsOf, List.map_append, ← rowsOf, hQ, List.range_succ, List.map_append]
        simp only [rowsOf, List.map_map, List.map_cons, List.map_nil]
        rfl
      · have := f.snoc (Up.app [] S' [.lst (P.map fun p => V.int (p.2.getD i 0))]) p.len (Nat.le_refl _) (row := P.map fun p => p.2.getD i 0) (by rw [snew, List.map_map]; rfl)
        refine ⟨fun x hx => ?_, this.new, this.nod⟩
        rw [sset_ne]
        · exact this.row x hx
        · rcases List.mem_append.mp hx with h' | h'
          · exact fn x h'
          · rw [List.mem_singleton.mp h']; have := slt q; simp only; omega
      · intro x hx
        rcases List.mem_append.mp hx with h' | h'
        · exact fn x h'
        · rw [List.mem_singleton.mp h']; have := slt q; simp only; omega) (S := S ++ [.lst []]) ⟨Up.app _ _ _, [], rfl, snew _ _, Fr.nil _ _, fun _ h => nomatch h⟩
  rw [e1]
  simp only [ev]
  refine ⟨Q, S1, S.length, ?_, rfl, p1, Nat.le_refl _, f1.1.tb q1, f1.1⟩
  rw [hQ, turn, hwd, List.length_range]

theorem sums_of_rows_spec {S : Sto} {a : Nat} {P : Rws} (t : Tb S a P) : r_sums_of_rows [.ref a] S = .ok (.ref S.length) (S ++ [.lst (((rowsOf P).map List.sum).map V.int)]) := by
  simp only [r_sums_of_rows_eq, c_sums_of_rows, ev, t.rd, items_tb]
  rw [compM_pure (α := Nat × List Int) oneP (fun p => .int p.2.sum) (chkL_of t.rd) (fun x hx => ⟨_, gI1_one _ _ _ _, by simp only [e_sums_of_rows_1, ev, sumM_at (t.rdr hx)]⟩)]
  simp only [ev, rowsOf, List.map_map]
  rfl

theorem sums_of_columns_spec {S : Sto} {a w : Nat} {P : Rws} (t : Tb S a P) (hR : Rect w (rowsOf P)) (h0 : P ≠ []) (w8 : w ≤ 1000) :
    ∃ (S' : Sto) (b : Nat), r_sums_of_columns [.ref a] S = .ok (.ref b) S' ∧ Up [] S S' ∧ S.length ≤ b ∧ S'[b]? = some (.lst (((turn (rowsOf P)).map List.sum).map V.int)) := by
  obtain ⟨Q, S1, b, hQ, e1, p1, l1, t1, f1⟩ := turned_table_spec t hR h0 w8
  simp only [r_sums_of_columns_eq, c_sums_of_columns, ev, e1, sums_of_rows_spec t1]
  exact ⟨_, _, rfl, p1.trans (Up.app _ _ _), p1.len, by rw [snew, hQ]⟩

/-! tables of even sums -/
def sumR (n : Nat) (f : Nat → Int) : Int := ((List.range n).map f).sum
theorem msum_le {α : Type} {f g : α → Int} : ∀ {l : List α}, (∀ x ∈ l, f x ≤ g x) → (l.map f).sum ≤ (l.map g).sum
  | [], _ => Int.le_refl _
  | x :: l, h => by
    rw [List.map_cons, List.map_cons, List.sum_cons, List.sum_cons]
    have h1 := h x List.mem_cons_self
    have h2 := msum_le (l := l) fun y hy => h y (List.mem_cons_of_mem _ hy)
    omega
theorem msum_lt {α : Type} {f g : α → Int} : ∀ {l : List α}, (∀ x ∈ l, f x ≤ g x) → (∃ x ∈ l, f x < g x) → (l.map f).sum < (l.map g).sum
  | [], _, h => by obtain ⟨x, hx, _⟩ := h; cases hx
  | x :: l, h, he => by
    rw [List.map_cons, List.map_cons, List.sum_cons, List.sum_cons]
    have h1 := h x List.mem_cons_self
    have h2 := msum_le (l := l) fun y hy => h y (List.mem_cons_of_mem _ hy)
    obtain ⟨y, hy, hlt⟩ := he
    rcases List.mem_cons.mp hy with rfl | hy
    · omega
    · have := msum_lt (l := l) (fun y hy => h y (List.mem_cons_of_mem _ hy)) ⟨y, hy, hlt⟩
      omega
theorem msum_const {α : Type} (v : Int) : ∀ l : List α, (l.map fun _ => v).sum = l.length * v
  | [] => by simp
  | x :: l => by rw [List.map_cons, List.sum_cons, msum_const v l, List.length_cons, Int.natCast_add, Int.add_mul]; simp; omega
theorem msum_congr {α : Type} {f g : α → Int} {l : List α} (h : ∀ x ∈ l, f x = g x) : (l.map f).sum = (l.map g).sum := by rw [List.map_congr_left h]
theorem msum_add {α : Type} {f g : α → Int} : ∀ {l : List α}, (l.map fun x => f x + g x).sum = (l.map f).sum + (l.map g).sum
  | [] => rfl
  | x :: l => by rw [List.map_cons, List.map_cons, List.map_cons, List.sum_cons, List.sum_cons, List.sum_cons, msum_add (l := l)]; omega
theorem msum_sub {α : Type} {f g : α → Int} : ∀ {l : List α}, (l.map fun x => f x - g x).sum = (l.map f).sum - (l.map g).sum
  | [] => rfl
  | x :: l => by rw [List.map_cons, List.map_cons, List.map_cons, List.sum_cons, List.sum_cons, List.sum_cons, msum_sub (l := l)]; omega
theorem msum_swap {α β : Type} (f : α → β → Int) : ∀ (xs : List α) (ys : List β), (xs.map fun x => (ys.map fun y => f x y).sum).sum = (ys.map fun y => (xs.map fun x => f x y).sum).sum
  | [], ys => by
    show (0 : Int) = _
    rw [show (ys.map fun y => (([] : List α).map fun x => f x y).sum) = ys.map fun _ => (0 : Int) from rfl, msum_const]; omega
  | x :: xs, ys => by
    rw [List.map_cons, List.sum_cons, msum_swap f xs ys, ← msum_add]
    exact msum_congr fun y _ => by rw [List.map_cons, List.sum_cons]
theorem msum_sub_list {g : Nat → Int} : ∀ {xs ys : List Nat}, xs.Nodup → (∀ x ∈ xs, x ∈ ys) → (∀ y ∈ ys, 0 ≤ g y) → (xs.map g).sum ≤ (ys.map g).sum
  | [], ys, _, _, h => by
    have := msum_le (f := fun _ => 0) (g := g) (l := ys) h
    rw [msum_const] at this
    show (0 : Int) ≤ _
    omega
  | x :: xs, ys, nd, hm, h => by
    rw [List.nodup_cons] at nd
    have hx := hm x List.mem_cons_self
    have hp := (List.perm_cons_erase hx).map g
    rw [sum_perm hp, List.map_cons, List.map_cons, List.sum_cons, List.sum_cons]
    have := msum_sub_list (xs := xs) (ys := ys.erase x) nd.2 (fun z hz => (List.mem_erase_of_ne fun e => nd.1 (by rw [← e]; exact hz)).mpr (hm z (List.mem_cons_of_mem _ hz))) (fun y hy => h y (List.mem_of_mem_erase hy))
    omega
theorem sumR_one {N c : Nat} (p : Int) (h : c < N) : sumR N (fun x => if x = c then p else 0) = p := by
  unfold sumR
  induction N with
  | zero => omega
  | succ N ih =>
    rw [List.range_succ, List.map_append, List.sum_append]
    by_cases e : c = N
    · subst e
      rw [msum_congr (g := fun _ => 0) (fun x hx => by rw [List.mem_range] at hx; rw [if_neg (by omega)]), msum_const]
      simp
    · rw [ih (by omega)]
      simp [show ¬ N = c by omega]
theorem perm_of : ∀ {xs ys : List Nat}, xs.Nodup → (∀ x ∈ xs, x ∈ ys) → ys.length ≤ xs.length → xs.Perm ys
  | [], ys, _, _, h => by
    have : ys = [] := List.length_eq_zero_iff.mp (by simpa using h)
    rw [this]
  | x :: xs, ys, nd, hm, h => by
    rw [List.nodup_cons] at nd
    have hx := hm x List.mem_cons_self
    have hl := List.length_erase_of_mem hx
    have h0 := List.length_pos_of_mem hx
    rw [List.length_cons] at h
    have := perm_of (xs := xs) (ys := ys.erase x) nd.2 (fun z hz => (List.mem_erase_of_ne fun e => nd.1 (by rw [← e]; exact hz)).mpr (hm z (List.mem_cons_of_mem _ hz))) (by omega)
    exact (this.cons x).trans (List.perm_cons_erase hx).symm

/-! sums over ranges -/
theorem sumR_succ (n : Nat) (f : Nat → Int) : sumR (n + 1) f = sumR n f + f n := by
  unfold sumR
  rw [List.range_succ, List.map_append, List.sum_append]; simp
theorem sumR_zero {n : Nat} {f : Nat → Int} (h : ∀ i, i < n → f i = 0) : sumR n f = 0 := by
  unfold sumR
  rw [msum_congr (g := fun _ => 0) (fun i hi => h i (List.mem_range.mp hi)), msum_const]; omega
theorem sumR_congr {n : Nat} {f g : Nat → Int} (h : ∀ i, i < n → f i = g i) : sumR n f = sumR n g := msum_congr fun i hi => h i (List.mem_range.mp hi)
theorem sumR_le {n : Nat} {f g : Nat → Int} (h : ∀ i, i < n → f i ≤ g i) : sumR n f ≤ sumR n g := msum_le fun i hi => h i (List.mem_range.mp hi)
theorem sumR_lt {n : Nat} {f g : Nat → Int} (h : ∀ i, i < n → f i ≤ g i) {k : Nat} (hk : k < n) (hl : f k < g k) : sumR n f < sumR n g := msum_lt (fun i hi => h i (List.mem_range.mp hi)) ⟨k, List.mem_range.mpr hk, hl⟩
theorem sumR_add {n : Nat} {f g : Nat → Int} : sumR n (fun k => f k + g k) = sumR n f + sumR n g := msum_add
theorem sumR_sub {n : Nat} {f g : Nat → Int} : sumR n (fun k => f k - g k) = sumR n f - sumR n g := msum_sub
theorem sumR_mul (c : Int) (f : Nat → Int) : ∀ n, sumR n (fun k => c * f k) = c * sumR n f
  | 0 => by show (0 : Int) = c * 0; omega
  | n + 1 => by rw [sumR_succ, sumR_succ, sumR_mul c f n, Int.mul_add]
theorem sumR_swap (f : Nat → Nat → Int) (m n : Nat) : sumR m (fun i => sumR n (fun j => f i j)) = sumR n fun j => sumR m fun i => f i j := msum_swap f (List.range m) (List.range n)
theorem sumR_only {f : Nat → Int} : ∀ {n : Nat} (c : Nat), c < n → (∀ i, i < n → i ≠ c → f i = 0) → sumR n f = f c
  | 0, c, hc, _ => by omega
  | n + 1, c, hc, h => by
    rw [sumR_succ]
    by_cases e : c = n
    · subst e
      rw [sumR_zero fun i hi => h i (by omega) (by omega)]; omega
    · rw [sumR_only c (by omega) (fun i hi => h i (by omega)), h n (by omega) (fun z => e z.symm)]; omega
theorem rr_range {xs : List Int} {N : Nat} (h : xs.length = N) : xs = (List.range N).map fun c => xs.getD c 0 := by
  apply List.ext_getElem
  · rw [List.length_map, List.length_range, h]
  · intro i h1 h2
    rw [List.getElem_map, List.getElem_range, List.getD_eq_getElem?_getD, List.getElem?_eq_getElem h1]; rfl
theorem rr_sum {xs : List Int} {N : Nat} (h : xs.length = N) : xs.sum = sumR N fun c => xs.getD c 0 := congrArg List.sum (rr_range h)
theorem rt_range {T : List (List Int)} {N : Nat} (h : T.length = N) : T = (List.range N).map fun r => T.getD r [] := by
  apply List.ext_getElem
  · rw [List.length_map, List.length_range, h]
  · intro i h1 h2
    rw [List.getElem_map, List.getElem_range, List.getD_eq_getElem?_getD, List.getElem?_eq_getElem h1]; rfl
theorem rt_sum {T : List (List Int)} {N k : Nat} (h : T.length = N) : (T.map fun r => r.getD k 0).sum = sumR N fun i => cl T i k := by
  conv => lhs; rw [rt_range h]
  rw [List.map_map]; rfl
theorem rt_mem {T : List (List Int)} {i : Nat} (h : i < T.length) : T.getD i [] ∈ T := by
  rw [List.getD_eq_getElem?_getD, List.getElem?_eq_getElem h]; exact List.getElem_mem h

theorem whileM_dn {t : St → Sto → R Bool} {ws : List Nat} {body : St → Sto → R Fl} (I : Nat → St → Sto → Prop) (J : St → Sto → Prop)
    (hs : ∀ n σ S, I n σ S → (∃ S1, t σ S = .ok false S1 ∧ J σ S1) ∨ ∃ S1, t σ S = .ok true S1 ∧ Tn (body σ S1) fun σ2 S2 => ∃ m, m < n ∧ I m (wipe σ2 ws) S2) {n : Nat} : ∀ {σ : St} {S : Sto}, I n σ S →
    ∃ σ' S', whileM t ws body σ S = .ok (.nx σ') S' ∧ J σ' S' := by
  induction n using Nat.strongRecOn with
  | ind n ih =>
    intro σ S h0
    rw [whileM_turn]
    rcases hs n σ S h0 with ⟨S1, h1, h2⟩ | ⟨S1, h1, hT⟩
    · rw [h1]; exact ⟨σ, S1, rfl, h2⟩
    · rw [h1]
      obtain ⟨σ2, S2, h2, m, h3, h4⟩ := hT.ex
      dsimp only
      rcases h2 with h2 | h2 <;> (rw [h2]; exact ih m h3 h4)

theorem sorted_nat {ks : List Nat} (nod : ks.Nodup) : ∃ zs : List Nat, upS (ks.map fun (k : Nat) => (k : Int)) = zs.map (fun (k : Nat) => (k : Int)) ∧ zs.Perm ks ∧ zs.Pairwise (· < ·) := by
  have hp := upS_perm (ks.map fun (k : Nat) => (k : Int))
  have hs := upS_sorted (ks.map fun (k : Nat) => (k : Int))
  generalize upS (ks.map fun (k : Nat) => (k : Int)) = l at hp hs
  have e : (l.map Int.toNat).map (fun (k : Nat) => (k : Int)) = l := by
    rw [List.map_map]
    conv => rhs; rw [← List.map_id l]
    refine List.map_congr_left fun x hx => ?_
    obtain ⟨k, _, rfl⟩ := List.mem_map.mp (hp.mem_iff.mp hx)
    rfl
  have hz : (l.map Int.toNat).Perm ks := by
    have := hp.map Int.toNat
    rwa [List.map_map, show (Int.toNat ∘ fun (k : Nat) => (k : Int)) = id from rfl, List.map_id] at this
  refine ⟨l.map Int.toNat, e.symm, hz, ?_⟩
  have hn : (l.map Int.toNat).Nodup := hz.nodup_iff.mpr nod
  have hle : (l.map Int.toNat).Pairwise (· ≤ ·) := by
    rw [List.pairwise_map]
    exact hs.imp fun {x y} h => by omega
  exact (hle.and hn).imp fun {x y} h => by have h1 := h.1; have h2 := h.2; omega

/-! tables between bounds: ways and cuts -/
abbrev FN := Nat × Nat
def fval (h w : Nat) (x : FN) : Prop := (x.1 = 0 ∧ x.2 < h) ∨ (x.1 = 1 ∧ x.2 < w)
def nxt (T lo hi : List (List Int)) (h w : Nat) (x y : FN) : Prop :=
  (x.1 = 0 ∧ y.1 = 1 ∧ x.2 < h ∧ y.2 < w ∧ cl T x.2 y.2 < cl hi x.2 y.2) ∨ (x.1 = 1 ∧ y.1 = 0 ∧ x.2 < w ∧ y.2 < h ∧ cl lo y.2 x.2 < cl T y.2 x.2)
theorem nxt.val {T lo hi : List (List Int)} {h w : Nat} {x y : FN} (n : nxt T lo hi h w x y) : fval h w x ∧ fval h w y := by
  rcases n with ⟨a, b, c, d, _⟩ | ⟨a, b, c, d, _⟩
  · exact ⟨.inl ⟨a, c⟩, .inr ⟨b, d⟩⟩
  · exact ⟨.inr ⟨a, c⟩, .inl ⟨b, d⟩⟩
def room (T lo hi : List (List Int)) (x y : FN) : Int := if x.1 = 0 then cl hi x.2 y.2 - cl T x.2 y.2 else cl T y.2 x.2 - cl lo y.2 x.2
theorem nxt.room {T lo hi : List (List Int)} {h w : Nat} {x y : FN} (n : nxt T lo hi h w x y) : 1 ≤ room T lo hi x y := by
  unfold Lw.room
  rcases n with ⟨a, b, c, d, e⟩ | ⟨a, b, c, d, e⟩
  · rw [if_pos a]; omega
  · rw [if_neg (by omega)]; omega
def fdel (x y : FN) (i j : Nat) : Int := if x = (0, i) ∧ y = (1, j) then 1 else if x = (1, j) ∧ y = (0, i) then -1 else 0
def fnd (p : List FN) (k : Nat) : FN := p.getD k (0, 0)
def fDl (p : List FN) (m i j : Nat) : Int := sumR m fun k => fdel (fnd p k) (fnd p (k + 1)) i j
theorem fDl_succ (p : List FN) (m i j : Nat) : fDl p (m + 1) i j = fDl p m i j + fdel (fnd p m) (fnd p (m + 1)) i j := sumR_succ _ _
theorem fnd_at {p : List FN} {k : Nat} (h : k < p.length) : p[k]? = some (fnd p k) := by
  unfold fnd
  rw [List.getD_eq_getElem?_getD, List.getElem?_eq_getElem h]; rfl
theorem fnd_inj {p : List FN} (nd' : p.Nodup) {i j : Nat} (hi : i < p.length) (hj : j < p.length) (e : fnd p i = fnd p j) : i = j := by
  have h1 := fnd_at hi
  have h2 := fnd_at hj
  rw [List.getElem?_eq_getElem hi] at h1
  rw [List.getElem?_eq_getElem hj] at h2
  injection h1 with h1
  injection h2 with h2
  exact (List.getElem_inj nd').mp (by rw [h1, h2, e])
structure Way (T lo hi : List (List Int)) (h w : Nat) (p : List FN) : Prop where
  nod : p.Nodup
  ne : 0 < p.length
  st : ∀ k, k + 1 < p.length → nxt T lo hi h w (fnd p k) (fnd p (k + 1))
section
variable {T lo hi : List (List Int)} {h w : Nat} {p : List FN}
theorem fdel_row {x y : FN} (n : nxt T lo hi h w x y) (i : Nat) : sumR w (fun j => fdel x y i j) = (if x = (0, i) then 1 else 0) - (if y = (0, i) then 1 else 0) := by
  obtain ⟨x1, x2⟩ := x
  obtain ⟨y1, y2⟩ := y
  rcases n with ⟨a, b, c, d, e⟩ | ⟨a, b, c, d, e⟩
  · have a : x1 = 0 := a
    have b : y1 = 1 := b
    subst a; subst b
    have d : y2 < w := d
    by_cases hx : x2 = i
    · subst hx
      rw [sumR_only y2 d (fun j _ hj => by unfold fdel; rw [if_neg (fun z => hj (by injection z.2 with _ z; exact z.symm)), if_neg (fun z => by injection z.1; omega)])]
      unfold fdel; simp
    · rw [sumR_zero fun j _ => by unfold fdel; rw [if_neg (fun z => hx (by injection z.1)), if_neg (fun z => by injection z.1; omega)]]
      simp [hx]
  · have a : x1 = 1 := a
    have b : y1 = 0 := b
    subst a; subst b
    have c : x2 < w := c
    by_cases hy : y2 = i
    · subst hy
      rw [sumR_only x2 c (fun j _ hj => by unfold fdel; rw [if_neg (fun z => by injection z.1; omega), if_neg (fun z => hj (by injection z.1 with _ z; exact z.symm))])]
      unfold fdel; simp
    · rw [sumR_zero fun j _ => by unfold fdel; rw [if_neg (fun z => by injection z.1; omega), if_neg (fun z => hy (by injection z.2))]]
      simp [hy]
theorem fdel_col {x y : FN} (n : nxt T lo hi h w x y) (j : Nat) : sumR h (fun i => fdel x y i j) = (if y = (1, j) then 1 else 0) - (if x = (1, j) then 1 else 0) := by
  obtain ⟨x1, x2⟩ := x
  obtain ⟨y1, y2⟩ := y
  rcases n with ⟨a, b, c, d, e⟩ | ⟨a, b, c, d, e⟩
  · have a : x1 = 0 := a
    have b : y1 = 1 := b
    subst a; subst b
    have c : x2 < h := c
    by_cases hx : y2 = j
    · subst hx
      rw [sumR_only x2 c (fun i _ hi => by unfold fdel; rw [if_neg (fun z => hi (by injection z.1 with _ z; exact z.symm)), if_neg (fun z => by injection z.1; omega)])]
      unfold fdel; simp
    · rw [sumR_zero fun i _ => by unfold fdel; rw [if_neg (fun z => hx (by injection z.2)), if_neg (fun z => by injection z.1; omega)]]
      simp [hx]
  · have a : x1 = 1 := a
    have b : y1 = 0 := b
    subst a; subst b
    have d : y2 < h := d
    by_cases hx : x2 = j
    · subst hx
      rw [sumR_only y2 d (fun i _ hi => by unfold fdel; rw [if_neg (fun z => by injection z.1; omega), if_neg (fun z => hi (by injection z.2 with _ z; exact z.symm))])]
      unfold fdel; simp
    · rw [sumR_zero fun i _ => by unfold fdel; rw [if_neg (fun z => by injection z.1; omega), if_neg (fun z => hx (by injection z.1))]]
      simp [hx]
theorem ftele (F : FN → Int) : ∀ m, sumR m (fun k => F (fnd p k) - F (fnd p (k + 1))) = F (fnd p 0) - F (fnd p m)
  | 0 => by show (0 : Int) = _; omega
  | m + 1 => by rw [sumR_succ, ftele F m]; omega
theorem Way.dl_row (W : Way T lo hi h w p) {m : Nat} (hm : m < p.length) (i : Nat) : sumR w (fun j => fDl p m i j) = (if fnd p 0 = (0, i) then 1 else 0) - (if fnd p m = (0, i) then 1 else 0) := by
  unfold fDl
  rw [← sumR_swap (fun k j => fdel (fnd p k) (fnd p (k + 1)) i j) m w, sumR_congr (fun k hk => fdel_row (W.st k (by omega)) i)]
  exact ftele (fun x => if x = (0, i) then 1 else 0) m
theorem Way.dl_col (W : Way T lo hi h w p) {m : Nat} (hm : m < p.length) (j : Nat) : sumR h (fun i => fDl p m i j) = (if fnd p m = (1, j) then 1 else 0) - (if fnd p 0 = (1, j) then 1 else 0) := by
  unfold fDl
  rw [← sumR_swap (fun k i => fdel (fnd p k) (fnd p (k + 1)) i j) m h, sumR_congr (fun k hk => fdel_col (W.st k (by omega)) j)]
  have := ftele (p := p) (fun x => if x = (1, j) then -1 else 0) m
  have e : sumR m (fun k => (if fnd p (k + 1) = (1, j) then (1 : Int) else 0) - if fnd p k = (1, j) then 1 else 0) = sumR m (fun k => (if fnd p k = (1, j) then (-1 : Int) else 0) - if fnd p (k + 1) = (1, j) then -1 else 0) := sumR_congr fun k _ => by split <;> split <;> omega
  rw [e, this]
  split <;> split <;> omega
/-- each cell once at most -/
theorem Way.dl_cell (W : Way T lo hi h w p) {m : Nat} (hm : m < p.length) (i j : Nat) : fDl p m i j = 0 ∨ ∃ k, k < m ∧ fDl p m i j = fdel (fnd p k) (fnd p (k + 1)) i j ∧ fdel (fnd p k) (fnd p (k + 1)) i j ≠ 0 := by
  by_cases hx : ∃ k, k < m ∧ fdel (fnd p k) (fnd p (k + 1)) i j ≠ 0
  · obtain ⟨k, hk, hne⟩ := hx
    refine .inr ⟨k, hk, ?_, hne⟩
    unfold fDl
    refine sumR_only (f := fun k => fdel (fnd p k) (fnd p (k + 1)) i j) k hk fun t ht htk => ?_
    have inj : ∀ {a b : Nat}, a ≤ m → b ≤ m → fnd p a = fnd p b → a = b := fun ha hb e => fnd_inj W.nod (by omega) (by omega) e
    show fdel (fnd p t) (fnd p (t + 1)) i j = 0
    unfold fdel at hne ⊢
    by_cases c1 : fnd p k = (0, i) ∧ fnd p (k + 1) = (1, j)
    · rw [if_neg (fun z => htk (inj (by omega) (by omega) (by rw [z.1, c1.1]))), if_neg (fun z => by
        have h1 := inj (a := t) (b := k + 1) (by omega) (by omega) (by rw [z.1, c1.2])
        have h2 := inj (a := t + 1) (b := k) (by omega) (by omega) (by rw [z.2, c1.1])
        omega)]
    · rw [if_neg c1] at hne
      by_cases c2 : fnd p k = (1, j) ∧ fnd p (k + 1) = (0, i)
      · rw [if_neg (fun z => by
          have h1 := inj (a := t) (b := k + 1) (by omega) (by omega) (by rw [z.1, c2.2])
          have h2 := inj (a := t + 1) (b := k) (by omega) (by omega) (by rw [z.2, c2.1])
          omega), if_neg (fun z => htk (inj (by omega) (by omega) (by rw [z.1, c2.1])))]
      · rw [if_neg c2] at hne; exact absurd rfl hne
  · refine .inl (sumR_zero fun k hk => ?_)
    by_cases e : fdel (fnd p k) (fnd p (k + 1)) i j = 0
    · exact e
    · exact absurd ⟨k, hk, e⟩ hx
/-- the bounds stay -/
theorem Way.bounds (W : Way T lo hi h w p) {m : Nat} (hm : m < p.length) {r : Int} (r1 : 0 ≤ r) (hr : ∀ k, k < m → r ≤ room T lo hi (fnd p k) (fnd p (k + 1))) {i j : Nat} (hT : cl lo i j ≤ cl T i j ∧ cl T i j ≤ cl hi i j) :
    cl lo i j ≤ cl T i j + r * fDl p m i j ∧ cl T i j + r * fDl p m i j ≤ cl hi i j := by
  rcases W.dl_cell hm i j with e | ⟨k, hk, e, hne⟩
  · rw [e]; omega
  · rw [e]
    have hk' := hr k hk
    unfold fdel at hne ⊢
    by_cases c1 : fnd p k = (0, i) ∧ fnd p (k + 1) = (1, j)
    · rw [if_pos c1]
      unfold room at hk'
      rw [c1.1, c1.2, if_pos rfl] at hk'
      have hk' : r ≤ cl hi i j - cl T i j := hk'
      omega
    · rw [if_neg c1] at hne ⊢
      by_cases c2 : fnd p k = (1, j) ∧ fnd p (k + 1) = (0, i)
      · rw [if_pos c2]
        unfold room at hk'
        rw [c2.1, c2.2, if_neg (show ¬ ((1, j) : FN).1 = 0 from (by decide : ¬ (1 = 0)))] at hk'
        have hk' : r ≤ cl T i j - cl lo i j := hk'
        omega
      · rw [if_neg c2] at hne; exact absurd rfl hne
end
/-! cuts -/
def bz (b : Bool) (x : Int) : Int := if b = true then x else 0
def CutOk (R C : Nat → Int) (lo hi : List (List Int)) (h w : Nat) (a b : Nat → Bool) : Prop :=
  sumR w (fun j => bz (b j) (C j)) + sumR h (fun i => sumR w fun j => bz (a i && !b j) (cl hi i j) - bz (!a i && b j) (cl lo i j)) < sumR h fun i => bz (a i) (R i)
theorem bz_sum (b : Bool) (f : Nat → Int) (n : Nat) : bz b (sumR n f) = sumR n fun j => bz b (f j) := by
  cases b
  · exact (sumR_zero fun _ _ => rfl).symm
  · rfl
theorem cut_none {R C : Nat → Int} {lo hi X : List (List Int)} {h w : Nat} {a b : Nat → Bool} (hR : ∀ i, i < h → sumR w (fun j => cl X i j) = R i) (hC : ∀ j, j < w → sumR h (fun i => cl X i j) = C j) (hX : ∀ i j, i < h → j < w → cl lo i j ≤ cl X i j ∧ cl X i j ≤ cl hi i j) : ¬ CutOk R C lo hi h w a b := by
  intro hc
  unfold CutOk at hc
  have e1 : sumR h (fun i => bz (a i) (R i)) = sumR h fun i => sumR w fun j => bz (a i) (cl X i j) := sumR_congr fun i hi => by rw [← bz_sum, hR i hi]
  have e2 : sumR w (fun j => bz (b j) (C j)) = sumR w fun j => sumR h fun i => bz (b j) (cl X i j) := sumR_congr fun j hj => by rw [← bz_sum, hC j hj]
  rw [e1, e2, ← sumR_swap (fun i j => bz (b j) (cl X i j)) h w, ← sumR_add] at hc
  have : sumR h (fun i => sumR w fun j => bz (a i) (cl X i j)) ≤ sumR h (fun i => sumR w (fun j => bz (b j) (cl X i j)) + sumR w fun j => bz (a i && !b j) (cl hi i j) - bz (!a i && b j) (cl lo i j)) := sumR_le fun i hi => by
    rw [← sumR_add]
    refine sumR_le fun j hj => ?_
    have := hX i j hi hj
    cases a i <;> cases b j <;> simp [bz] <;> omega
  omega
theorem cut_full {R C : Nat → Int} {lo hi T : List (List Int)} {h w : Nat} {a b : Nat → Bool} (hR : ∀ i, i < h → sumR w (fun j => cl T i j) ≤ R i) (hC : ∀ j, j < w → b j = true → sumR h (fun i => cl T i j) = C j) (h1 : ∀ i j, i < h → j < w → a i = true → b j = false → cl T i j = cl hi i j)
    (h2 : ∀ i j, i < h → j < w → a i = false → b j = true → cl T i j = cl lo i j) (he : ∃ i, i < h ∧ a i = true ∧ sumR w (fun j => cl T i j) < R i) : CutOk R C lo hi h w a b := by
  unfold CutOk
  have e2 : sumR w (fun j => bz (b j) (C j)) = sumR w fun j => sumR h fun i => bz (b j) (cl T i j) := sumR_congr fun j hj => by
    rw [← bz_sum]
    cases hb : b j
    · rfl
    · rw [hC j hj hb]
  rw [e2, ← sumR_swap (fun i j => bz (b j) (cl T i j)) h w, ← sumR_add]
  have e : sumR h (fun i => sumR w (fun j => bz (b j) (cl T i j)) + sumR w fun j => bz (a i && !b j) (cl hi i j) - bz (!a i && b j) (cl lo i j)) = sumR h fun i => bz (a i) (sumR w fun j => cl T i j) := sumR_congr fun i hi => by
    rw [bz_sum, ← sumR_add]
    refine sumR_congr fun j hj => ?_
    have k1 := h1 i j hi hj
    have k2 := h2 i j hi hj
    cases ha : a i <;> cases hb : b j <;> simp [bz, ha, hb] at k1 k2 ⊢ <;> omega
  rw [e]
  obtain ⟨i, hi, ha, hl⟩ := he
  refine sumR_lt (fun k hk => ?_) hi ?_
  · have := hR k hk
    cases a k <;> simp [bz] <;> omega
  · rw [ha]; simpa [bz] using hl

/-! reached_nodes -/
def NdF (S : Sto) (m : Nat) (x : FN) : Prop := S[m]? = some (.tup [.int (x.1 : Int), .int (x.2 : Int)])
def LN (S : Sto) (q : Nat) (R : List (Nat × FN)) : Prop := S[q]? = some (.lst (R.map fun p => V.ref p.1)) ∧ ∀ p ∈ R, NdF S p.1 p.2
def NoTu (M : List Nat) (S : Sto) : Prop := ∀ m ∈ M, ∀ xs, S[m]? ≠ some (.tup xs)
theorem NdF.upM {M : List Nat} {S S' : Sto} {m : Nat} {x : FN} (h : NdF S m x) (u : Up M S S') (t : NoTu M S) : NdF S' m x := u.at' m _ (fun hm => t m hm _ h) h
theorem NdF.up {S S' : Sto} {m : Nat} {x : FN} (h : NdF S m x) (u : Up [] S S') : NdF S' m x := u.get h
theorem LN.upM {M : List Nat} {S S' : Sto} {q : Nat} {R : List (Nat × FN)} (h : LN S q R) (u : Up M S S') (t : NoTu M S) (hq : q ∉ M) : LN S' q R := ⟨u.at' q _ hq h.1, fun p hp => (h.2 p hp).upM u t⟩
theorem LN.up {S S' : Sto} {q : Nat} {R : List (Nat × FN)} (h : LN S q R) (u : Up [] S S') : LN S' q R := ⟨u.get h.1, fun p hp => (h.2 p hp).up u⟩
def fkI (x : FN) : List Int := [(x.1 : Int), (x.2 : Int)]
theorem fkI_inj {x y : FN} (h : fkI x = fkI y) : x = y := by
  unfold fkI at h
  injection h with h1 h2
  injection h2 with h2 _
  exact Prod.ext (by omega) (by omega)
theorem NdF.key {S : Sto} {m : Nat} {x : FN} (h : NdF S m x) : S[m]? = some (.tup ((fkI x).map V.int)) := h
def BefF (S : Sto) (v : V) (o : Option FN) : Prop := match o with
  | none => v = .non
  | some y => ∃ m : Nat, v = .ref m ∧ NdF S m y
theorem BefF.upM {M : List Nat} {S S' : Sto} {v : V} {o : Option FN} (h : BefF S v o) (u : Up M S S') (t : NoTu M S) : BefF S' v o := by
  cases o with
  | none => exact h
  | some y =>
    obtain ⟨m, e, q⟩ := h
    exact ⟨m, e, q.upM u t⟩
structure CT (S : Sto) (n : Nat) (g : FN → Option (Option FN)) (ks : List FN) : Prop where
  ex : ∃ kvs : List (TK × V), S[n]? = some (.dT kvs) ∧ kvs.map (·.1) = (ks.map fkI).map tkI ∧ ∀ x o, g x = some o → ∃ v, valV kvs (tkI (fkI x)) = some v ∧ BefF S v o
  keys : ∀ x, (g x).isSome = true ↔ x ∈ ks
theorem CT.upM {M : List Nat} {S S' : Sto} {n : Nat} {g : FN → Option (Option FN)} {ks : List FN} (d : CT S n g ks) (u : Up M S S') (t : NoTu M S) (hn : n ∉ M) : CT S' n g ks := by
  obtain ⟨⟨kvs, e, l, v⟩, k⟩ := d
  exact ⟨⟨kvs, u.at' n _ hn e, l, fun x o h => let ⟨w, h1, h2⟩ := v x o h; ⟨w, h1, h2.upM u t⟩⟩, k⟩
theorem CT.up {S S' : Sto} {n : Nat} {g : FN → Option (Option FN)} {ks : List FN} (d : CT S n g ks) (u : Up [] S S') : CT S' n g ks := d.upM u (fun _ h => nomatch h) (fun h => nomatch h)
theorem CT.dts {S : Sto} {n : Nat} {g : FN → Option (Option FN)} {ks : List FN} (d : CT S n g ks) : DTS S n (ks.map fkI) := by
  obtain ⟨⟨kvs, e, l, v⟩, k⟩ := d
  exact ⟨kvs, e, l⟩
theorem CT.lt {S : Sto} {n : Nat} {g : FN → Option (Option FN)} {ks : List FN} (d : CT S n g ks) : n < S.length := by
  obtain ⟨⟨kvs, e, l, v⟩, k⟩ := d
  exact slt e
theorem mem_fk {x : FN} {ks : List FN} : fkI x ∈ ks.map fkI ↔ x ∈ ks := ⟨fun h => by
  obtain ⟨y, h1, h2⟩ := List.mem_map.mp h
  rw [← fkI_inj h2]; exact h1, fun h => List.mem_map_of_mem h⟩
theorem CT.nin {S : Sto} {n m : Nat} {g : FN → Option (Option FN)} {ks : List FN} {x : FN} (d : CT S n g ks) (h : NdF S m x) : dinT true (.ref m) (.ref n) S = .ok (.bl (!decide (x ∈ ks))) S := by
  rw [d.dts.isin h.key true, if_pos rfl]
  simp only [mem_fk]
theorem CT.get {S : Sto} {n m : Nat} {g : FN → Option (Option FN)} {ks : List FN} {x : FN} {o : Option FN} (d : CT S n g ks) (h : NdF S m x) (ho : g x = some o) : ∃ v, dixT (.ref n) (.ref m) S = .ok v S ∧ BefF S v o := by
  obtain ⟨⟨kvs, e, l, v⟩, k⟩ := d
  obtain ⟨w, h1, h2⟩ := v x o ho
  refine ⟨w, ?_, h2⟩
  unfold dixT
  rw [rdD_at e]
  simp only [keyT_ints h.key, h1]
def fputF (g : FN → Option (Option FN)) (x : FN) (o : Option FN) : FN → Option (Option FN) := fun y => if y = x then some o else g y
theorem fputF_same {g : FN → Option (Option FN)} {x : FN} {o : Option FN} : fputF g x o x = some o := if_pos rfl
theorem fputF_ne {g : FN → Option (Option FN)} {x y : FN} {o : Option FN} (h : y ≠ x) : fputF g x o y = g y := if_neg h
theorem CT.put {S : Sto} {n m : Nat} {g : FN → Option (Option FN)} {ks : List FN} {x : FN} {v : V} {o : Option FN} (d : CT S n g ks) (hm : ks.length < 16777216) (h : NdF S m x) (hx : x ∉ ks) (hv : BefF S v o) :
    ∃ S', setT (.ref n) (.ref m) v S = .ok () S' ∧ Up [n] S S' ∧ NoTu [n] S ∧ S'.length = S.length ∧ CT S' n (fputF g x o) (ks ++ [x]) := by
  obtain ⟨⟨kvs, e, l, vs⟩, k⟩ := d
  have hl := congrArg List.length l
  rw [List.length_map, List.length_map, List.length_map] at hl
  have hnn : valV kvs (tkI (fkI x)) = none := by
    have := valT_mem (fkI x) l
    rw [decide_eq_false (fun h => hx (mem_fk.mp h))] at this
    exact Option.isSome_eq_false_iff.mp this |> Option.isNone_iff_eq_none.mp
  have u : Up [n] S (S.set n (.dT (putK kvs (tkI (fkI x)) v))) := Up.set (List.mem_singleton.mpr rfl) _
  have nt : NoTu [n] S := fun m' hm' xs e' => by rw [List.mem_singleton.mp hm', e] at e'; cases e'
  refine ⟨_, ?_, u, nt, List.length_set .., ⟨_, sset_same e, by rw [putK_new _ hnn, List.map_append, List.map_append, List.map_append, l]; rfl, fun y o' hy => ?_⟩, fun y => ?_⟩
  · simp only [setT, rdD_at e, keyT_ints h.key]
    exact if_pos (show kvs.length < 16777216 by omega)
  · rw [valV_put]
    by_cases ey : y = x
    · subst ey
      rw [fputF_same] at hy
      cases hy
      exact ⟨v, if_pos rfl, hv.upM u nt⟩
    · rw [fputF_ne ey] at hy
      obtain ⟨w, h1, h2⟩ := vs y o' hy
      exact ⟨w, by rw [if_neg (fun z => ey (fkI_inj (tkI_inj z)))]; exact h1, h2.upM u nt⟩
  · by_cases ey : y = x
    · subst ey; rw [fputF_same]; simp
    · rw [fputF_ne ey, k y]; simp [ey]
theorem CT.new (S : Sto) : CT (S ++ [.dT []]) S.length (fun _ => none) [] := ⟨⟨[], snew _ _, rfl, fun _ _ h => nomatch h⟩, fun _ => by simp⟩
theorem compM_nds {α : Type} {S0 : Sto} {chk : Sto → Bool} {tg : Itm → St → Sto → R St} {tt : St → Sto → R Bool} {te : St → Sto → R V} {σ : St} (g : α → Itm) (p : α → Bool) (f : α → FN) (hc : ∀ S, Up [] S0 S → chk S = true) : ∀ {xs : List α}
    (_ : ∀ x ∈ xs, ∀ S, Up [] S0 S → ∃ σ1, tg (g x) σ S = .ok σ1 S ∧ tt σ1 S = .ok (p x) S ∧ (p x = true → te σ1 S = .ok (.ref S.length) (S ++ [.tup [.int ((f x).1 : Int), .int ((f x).2 : Int)]]))) (S : Sto) (_ : Up [] S0 S),
    ∃ (L : List (Nat × FN)) (S' : Sto), compM chk tg tt te (xs.map g) σ S = .ok (L.map fun p => V.ref p.1) S' ∧ Up [] S S' ∧ L.map Prod.snd = (xs.filter p).map f ∧ ∀ q ∈ L, NdF S' q.1 q.2
  | [], _, S, h0 => ⟨[], S, by simp [compM, hc S h0], Up.refl _ S, rfl, fun _ h => nomatch h⟩
  | it :: items, h, S, h0 => by
    obtain ⟨σ1, h1, h2, h3⟩ := h it List.mem_cons_self S h0
    have hr := fun x hx => h x (List.mem_cons_of_mem _ hx)
    cases hp : p it with
    | true =>
      have v := Up.app [] S [.tup [.int ((f it).1 : Int), .int ((f it).2 : Int)]]
      obtain ⟨L, S2, e, u, q, r⟩ := compM_nds g p f hc hr _ (h0.trans v)
      refine ⟨(S.length, f it) :: L, S2, ?_, v.trans u, ?_, fun z hz => ?_⟩
      · rw [List.map_cons, compM, if_pos (hc S h0), h1]
        simp only [R.nox_ok, R.bind_ok, h2, hp, h3 hp, if_true, e]
        rfl
      · rw [List.filter_cons, if_pos hp, List.map_cons, List.map_cons, q]
      · rcases List.mem_cons.mp hz with rfl | hz
        · exact u.get (snew _ _)
        · exact r z hz
    | false =>
      obtain ⟨L, S2, e, u, q, r⟩ := compM_nds g p f hc hr S h0
      refine ⟨L, S2, ?_, u, ?_, r⟩
      · rw [List.map_cons, compM, if_pos (hc S h0), h1]
        simp only [R.nox_ok, R.bind_ok, h2, hp, Bool.false_eq_true, if_false, e]
      · rw [List.filter_cons, if_neg (by simp [hp]), q]
theorem nodes_next_spec {S : Sto} {m c l u h w : Nat} {P PL PU : Rws} {x : FN} (t : Tb S c P) (tl : Tb S l PL) (tu : Tb S u PU) (hR : Rect w (rowsOf P)) (hRL : Rect w (rowsOf PL)) (hRU : Rect w (rowsOf PU)) (hl : P.length = h) (hlL : PL.length = h) (hlU : PU.length = h) (h8 : h ≤ 1000) (w8 : w ≤ 1000) (w1 : 1 ≤ w) (hx : fval h w x) (tx : NdF S m x) :
    ∃ (S' : Sto) (q : Nat) (L : List (Nat × FN)), r_nodes_next [.ref m, .ref c, .ref l, .ref u] S = .ok (.ref q) S' ∧ Up [] S S' ∧ S.length ≤ q ∧ LN S' q L ∧ ∀ y, y ∈ L.map Prod.snd ↔ nxt (rowsOf P) (rowsOf PL) (rowsOf PU) h w x y := by
  obtain ⟨xs, k⟩ := x
  have tx : S[m]? = some (.tup [.int (xs : Int), .int (k : Int)]) := tx
  have fin : ∀ {S1 S2 : Sto} {L : List (Nat × FN)}, Up [] S1 S2 → (∀ q ∈ L, NdF S2 q.1 q.2) → S1 = S → Up [] S (S2 ++ [.lst (L.map fun p => V.ref p.1)]) ∧ S.length ≤ S2.length ∧ LN (S2 ++ [.lst (L.map fun p => V.ref p.1)]) S2.length L := fun {S1 S2 L} u hq e => by
    subst e
    exact ⟨u.trans (Up.app _ _ _), u.len, snew _ _, fun p hp => (hq p hp).up (Up.app _ _ _)⟩
  rcases hx with ⟨hx, hk⟩ | ⟨hx, hk⟩
  · have hx : xs = 0 := hx
    subst hx
    have hk : k < h := hk
    obtain ⟨nm, hnm⟩ := row_of (P := P) (i := k) (by omega)
    have hm := List.mem_of_getElem? hnm
    have i1 := t.ix (i := (k : Int)) (by omega) hnm
    have e0 : eqM (.int ((0 : Nat) : Int)) (.int 0) S = .ok (.bl true) S := by rw [eqM_int]; rfl
    simp (decide := true) only [ev, ex9, exA, exB, exD, decide_true, decide_false, Bool.not_true, Bool.not_false, not_true, not_false_iff, eq_self, List.length_map, if_true, if_false, Bool.false_eq_true, r_nodes_next_eq, c_nodes_next, rdLT_tup tx, kGT2, e0, i1, lenM_at (t.rdrT hm), rect_of hR hm]
    rw [rng1_ok (by omega), items_rng, Int.toNat_natCast]
    simp (decide := true) only [ev, ex9, exA, exB, exD, decide_true, decide_false, Bool.not_true, Bool.not_false, not_true, not_false_iff, eq_self, List.length_map, if_true, if_false, Bool.false_eq_true]
    obtain ⟨L, S2, e2, u2, hL, hq⟩ := compM_nds (S0 := S) (chk := chkY) (tg := gI1 6) (tt := p_nodes_next_1) (te := e_nodes_next_1) (oneR 0) (fun j => decide (cl (rowsOf P) k j < cl (rowsOf PU) k j)) (fun j => (1, j)) (fun _ _ => rfl) (xs := List.range w) (σ := [some (.ref m), some (.ref c), some (.ref l), some (.ref u), some (.int ((0 : Nat) : Int)), some (.int (k : Int)), none, none]) (fun j hj S' u' => by
      rw [List.mem_range] at hj
      have z0 : (0 : Int) + (j : Int) = (j : Int) := by omega
      obtain ⟨n1, x1, x2⟩ := cell_rd (i := (k : Int)) (j := (j : Int)) (t.up u') hR (by omega) (by omega) (by omega) (by omega)
      obtain ⟨n2, y1, y2⟩ := cell_rd (i := (k : Int)) (j := (j : Int)) (tu.up u') hRU (by omega) (by omega) (by omega) (by omega)
      have x2 := x2 (j : Int) (by omega) (by omega)
      have y2 := y2 (j : Int) (by omega) (by omega)
      rw [Int.toNat_natCast, Int.toNat_natCast] at x2 y2
      exact ⟨_, gI1_one _ _ _ _, by simp (decide := true) only [ev, ex9, exA, exB, exD, decide_true, decide_false, Bool.not_true, Bool.not_false, not_true, not_false_iff, eq_self, List.length_map, if_true, if_false, Bool.false_eq_true, p_nodes_next_1, z0, x1, x2, y1, y2], fun _ => by simp (decide := true) only [ev, ex9, exA, exB, exD, decide_true, decide_false, Bool.not_true, Bool.not_false, not_true, not_false_iff, eq_self, List.length_map, if_true, if_false, Bool.false_eq_true, e_nodes_next_1, z0]; rfl⟩) S (Up.refl _ _)
    rw [e2]
    simp (decide := true) only [ev, ex9, exA, exB, exD, decide_true, decide_false, Bool.not_true, Bool.not_false, not_true, not_false_iff, eq_self, List.length_map, if_true, if_false, Bool.false_eq_true]
    obtain ⟨f1, f2, f3⟩ := fin u2 hq rfl
    refine ⟨_, _, L, rfl, f1, f2, f3, fun y => ?_⟩
    rw [hL, List.mem_map]
    constructor
    · rintro ⟨j, hj, rfl⟩
      rw [List.mem_filter, List.mem_range] at hj
      exact .inl ⟨rfl, rfl, hk, hj.1, by simpa using hj.2⟩
    · rintro (⟨_, b, _, d, e⟩ | ⟨a, _⟩)
      · refine ⟨y.2, List.mem_filter.mpr ⟨List.mem_range.mpr d, by simpa using e⟩, ?_⟩
        rw [← b]
      · have a : (0 : Nat) = 1 := a
        omega
  · have hx : xs = 1 := hx
    subst hx
    have hk : k < w := hk
    have e0 : eqM (.int ((1 : Nat) : Int)) (.int 0) S = .ok (.bl false) S := by rw [eqM_int]; rfl
    simp (decide := true) only [ev, ex9, exA, exB, exD, decide_true, decide_false, Bool.not_true, Bool.not_false, not_true, not_false_iff, eq_self, List.length_map, if_true, if_false, Bool.false_eq_true, r_nodes_next_eq, c_nodes_next, rdLT_tup tx, kGT2, e0, t.len, hl]
    rw [rng1_ok (by omega), items_rng, Int.toNat_natCast]
    simp (decide := true) only [ev, ex9, exA, exB, exD, decide_true, decide_false, Bool.not_true, Bool.not_false, not_true, not_false_iff, eq_self, List.length_map, if_true, if_false, Bool.false_eq_true]
    obtain ⟨L, S2, e2, u2, hL, hq⟩ := compM_nds (S0 := S) (chk := chkY) (tg := gI1 7) (tt := p_nodes_next_2) (te := e_nodes_next_2) (oneR 0) (fun i => decide (cl (rowsOf PL) i k < cl (rowsOf P) i k)) (fun i => (0, i)) (fun _ _ => rfl) (xs := List.range h) (σ := [some (.ref m), some (.ref c), some (.ref l), some (.ref u), some (.int ((1 : Nat) : Int)), some (.int (k : Int)), none, none]) (fun j hj S' u' => by
      rw [List.mem_range] at hj
      have z0 : (0 : Int) + (j : Int) = (j : Int) := by omega
      obtain ⟨n1, x1, x2⟩ := cell_rd (i := (j : Int)) (j := (k : Int)) (t.up u') hR (by omega) (by omega) (by omega) (by omega)
      obtain ⟨n2, y1, y2⟩ := cell_rd (i := (j : Int)) (j := (k : Int)) (tl.up u') hRL (by omega) (by omega) (by omega) (by omega)
      have x2 := x2 (k : Int) (by omega) (by omega)
      have y2 := y2 (k : Int) (by omega) (by omega)
      rw [Int.toNat_natCast, Int.toNat_natCast] at x2 y2
      exact ⟨_, gI1_one _ _ _ _, by simp (decide := true) only [ev, ex9, exA, exB, exD, decide_true, decide_false, Bool.not_true, Bool.not_false, not_true, not_false_iff, eq_self, List.length_map, if_true, if_false, Bool.false_eq_true, p_nodes_next_2, z0, x1, x2, y1, y2], fun _ => by simp (decide := true) only [ev, ex9, exA, exB, exD, decide_true, decide_false, Bool.not_true, Bool.not_false, not_true, not_false_iff, eq_self, List.length_map, if_true, if_false, Bool.false_eq_true, e_nodes_next_2, z0]; rfl⟩) S (Up.refl _ _)
    rw [e2]
    simp (decide := true) only [ev, ex9, exA, exB, exD, decide_true, decide_false, Bool.not_true, Bool.not_false, not_true, not_false_iff, eq_self, List.length_map, if_true, if_false, Bool.false_eq_true]
    obtain ⟨f1, f2, f3⟩ := fin u2 hq rfl
    refine ⟨_, _, L, rfl, f1, f2, f3, fun y => ?_⟩
    rw [hL, List.mem_map]
    constructor
    · rintro ⟨j, hj, rfl⟩
      rw [List.mem_filter, List.mem_range] at hj
      exact .inr ⟨rfl, rfl, hk, hj.1, by simpa using hj.2⟩
    · rintro (⟨a, _⟩ | ⟨_, b, _, d, e⟩)
      · have a : (1 : Nat) = 0 := a
        omega
      · refine ⟨y.2, List.mem_filter.mpr ⟨List.mem_range.mpr d, by simpa using e⟩, ?_⟩
        rw [← b]

/-- what was reached -/
structure Rch (T lo hi : List (List Int)) (h w : Nat) (rs : List Int) (g : FN → Option (Option FN)) (ks : List FN) : Prop where
  nod : ks.Nodup
  val : ∀ x ∈ ks, fval h w x
  root : ∀ x, g x = some none → x.1 = 0 ∧ 0 < rs.getD x.2 0
  back : ∀ (i : Nat) (x p : FN), ks[i]? = some x → g x = some (some p) → ∃ j, j < i ∧ ks[j]? = some p ∧ nxt T lo hi h w p x
def allN (h w : Nat) : List FN := (List.range h).map (fun k => (0, k)) ++ (List.range w).map (fun k => (1, k))
theorem Rch.len {T lo hi : List (List Int)} {h w : Nat} {rs : List Int} {g : FN → Option (Option FN)} {ks : List FN} (r : Rch T lo hi h w rs g ks) : ks.length ≤ h + w := by
  have := nodup_le (fun r : FN => r) (xs := ks) (ys := allN h w) (by rw [List.map_id']; exact r.nod) (fun x hx => by
    unfold allN
    rw [List.mem_append, List.mem_map, List.mem_map]
    rcases r.val x hx with ⟨h1, h2⟩ | ⟨h1, h2⟩
    · exact .inl ⟨x.2, List.mem_range.mpr h2, by rw [← h1]⟩
    · exact .inr ⟨x.2, List.mem_range.mpr h2, by rw [← h1]⟩)
  unfold allN at this
  simpa using this
theorem Rch.new (T lo hi : List (List Int)) (h w : Nat) (rs : List Int) : Rch T lo hi h w rs (fun _ => none) [] := ⟨List.nodup_nil, (fun _ h => nomatch h), (fun _ h => nomatch h), (fun _ _ _ h _ => by simp at h)⟩
theorem Rch.add {T lo hi : List (List Int)} {h w : Nat} {rs : List Int} {g : FN → Option (Option FN)} {ks : List FN} (r : Rch T lo hi h w rs g ks) (hk : ∀ x, (g x).isSome = true ↔ x ∈ ks) {x : FN} {o : Option FN} (hx : x ∉ ks) (hv : fval h w x) (ho : match o with
    | none => x.1 = 0 ∧ 0 < rs.getD x.2 0
    | some p => p ∈ ks ∧ nxt T lo hi h w p x) : Rch T lo hi h w rs (fputF g x o) (ks ++ [x]) := by
  refine ⟨?_, fun y hy => ?_, fun y hy => ?_, fun i y p hy hg => ?_⟩
  · rw [List.nodup_append]
    exact ⟨r.nod, by simp, fun a ha b hb e => by rw [List.mem_singleton.mp hb] at e; exact hx (by rw [← e]; exact ha)⟩
  · rcases List.mem_append.mp hy with hy | hy
    · exact r.val y hy
    · rw [List.mem_singleton.mp hy]; exact hv
  · by_cases e : y = x
    · subst e
      rw [fputF_same] at hy
      cases hy
      exact ho
    · rw [fputF_ne e] at hy; exact r.root y hy
  · by_cases hl : i < ks.length
    · rw [List.getElem?_append_left hl] at hy
      have e : y ≠ x := fun e => hx (by rw [← e]; exact List.mem_of_getElem? hy)
      rw [fputF_ne e] at hg
      obtain ⟨j, h1, h2, h3⟩ := r.back i y p hy hg
      exact ⟨j, h1, by rw [List.getElem?_append_left (by omega)]; exact h2, h3⟩
    · rw [List.getElem?_append_right (by omega)] at hy
      have hi0 : i - ks.length = 0 := by
        have := (List.getElem?_eq_some_iff.mp hy).1
        simp at this; omega
      rw [hi0] at hy
      cases hy
      rw [fputF_same] at hg
      cases hg
      obtain ⟨h1, h2⟩ := ho
      obtain ⟨j, hj⟩ := List.mem_iff_getElem?.mp h1
      have hjl := (List.getElem?_eq_some_iff.mp hj).1
      exact ⟨j, by omega, by rw [List.getElem?_append_left hjl]; exact hj, h2⟩
theorem items_nd (L : List (Nat × FN)) : (L.map fun p => V.ref p.1).map Itm.one = L.map fun p => Itm.one (.ref p.1) := by rw [List.map_map]; rfl
theorem LN.at' {S : Sto} {q i : Nat} {L : List (Nat × FN)} {x : FN} (h : LN S q L) (hi : (L.map Prod.snd)[i]? = some x) : ∃ m : Nat, (L.map fun p => V.ref p.1)[i]? = some (.ref m) ∧ NdF S m x := by
  rw [List.getElem?_map] at hi
  obtain ⟨p, hp, rfl⟩ := Option.map_eq_some_iff.mp hi
  exact ⟨p.1, by rw [List.getElem?_map, hp]; rfl, h.2 p (List.mem_of_getElem? hp)⟩
theorem LN.snoc {S S' : Sto} {q m : Nat} {L : List (Nat × FN)} {x : FN} (h : LN S q L) (hl : L.length < 16777216) (hm : NdF S m x) : ∃ S', appM (.ref q) [.ref m] S = .ok .non S' ∧ Up [q] S S' ∧ NoTu [q] S ∧ S'.length = S.length ∧ LN S' q (L ++ [(m, x)]) := by
  have u : Up [q] S (S.set q (.lst ((L.map fun p => V.ref p.1) ++ [.ref m]))) := Up.set (List.mem_singleton.mpr rfl) _
  have nt : NoTu [q] S := fun m' hm' xs e' => by rw [List.mem_singleton.mp hm', h.1] at e'; cases e'
  refine ⟨_, appM_at h.1 (by rw [List.length_map]; exact hl), u, nt, List.length_set .., by rw [sset_same h.1, List.map_append]; rfl, fun p hp => ?_⟩
  rcases List.mem_append.mp hp with hp | hp
  · exact (h.2 p hp).upM u nt
  · rw [List.mem_singleton.mp hp]; exact hm.upM u nt
theorem reached_nodes_spec {S : Sto} {rn wn c l u h w : Nat} {rs ws : List Int} {P PL PU : Rws} (hrs : S[rn]? = some (.lst (rs.map V.int))) (hws : S[wn]? = some (.lst (ws.map V.int))) (rl : rs.length = h) (wl : ws.length = w)
    (t : Tb S c P) (tl : Tb S l PL) (tu : Tb S u PU) (hR : Rect w (rowsOf P)) (hRL : Rect w (rowsOf PL)) (hRU : Rect w (rowsOf PU)) (hl : P.length = h) (hlL : PL.length = h) (hlU : PU.length = h) (h8 : h ≤ 1000) (w8 : w ≤ 1000) (w1 : 1 ≤ w) :
    ∃ (S' : Sto) (tp cm : Nat) (sv : V) (g : FN → Option (Option FN)) (ks : List FN), r_reached_nodes [.ref rn, .ref wn, .ref c, .ref l, .ref u] S = .ok (.ref tp) S' ∧ Up [] S S' ∧ S'[tp]? = some (.tup [.ref cm, sv]) ∧ S.length ≤ cm ∧ CT S' cm g ks ∧ Rch (rowsOf P) (rowsOf PL) (rowsOf PU) h w rs g ks ∧
      ((sv = .non ∧ (∀ x ∈ ks, ∀ y, nxt (rowsOf P) (rowsOf PL) (rowsOf PU) h w x y → y ∈ ks) ∧ (∀ k, k < h → 0 < rs.getD k 0 → (0, k) ∈ ks) ∧ ∀ j, (1, j) ∈ ks → ws.getD j 0 ≤ 0) ∨ ∃ (m : Nat) (x : FN), sv = .ref m ∧ NdF S' m x ∧ x ∈ ks ∧ x.1 = 1 ∧ 0 < ws.getD x.2 0) := by
  simp (decide := true) only [ev, ex9, exA, exB, exD, decide_true, decide_false, Bool.not_true, Bool.not_false, not_true, not_false_iff, eq_self, List.length_map, if_true, if_false, Bool.false_eq_true, r_reached_nodes_eq, c_reached_nodes, eDnewT_eq]
  have u1 := Up.app [] S [.dT []]
  have c1 := CT.new S
  generalize S ++ [Ob.dT []] = S1 at u1 c1 ⊢
  have u2 := Up.app [] S1 [.lst []]
  have q2 := snew S1 (.lst [])
  have c2 := c1.up u2
  have l12 : S.length < S1.length := c1.lt
  generalize S1 ++ [Ob.lst []] = S2 at u2 q2 c2 ⊢
  generalize hcm : S.length = cm at c1 c2 l12 ⊢
  generalize hln : S1.length = ln at l12 q2 ⊢
  have u02 := u1.trans u2
  have n2 : NoTu [cm, ln] S2 := fun m hm xs e => by
    rcases List.mem_cons.mp hm with rfl | hm
    · obtain ⟨⟨kvs, e', _⟩, _⟩ := c2
      rw [e'] at e; cases e
    · rw [List.mem_singleton.mp hm, q2] at e; cases e
  have nlt : ∀ {a : Nat}, a < S.length → a ∉ [cm, ln] := fun {a} ha => by simp only [List.mem_cons, List.not_mem_nil, or_false]; omega
  have tS : ∀ {S' : Sto} {a : Nat} {P : Rws}, Tb S a P → Up [cm, ln] S2 S' → Tb S' a P := fun {S' a P} t h => (t.up u02).upM h (nlt t.lt) (fun p hp => nlt (t.ltr hp))
  have gS : ∀ {S' : Sto} {a : Nat} {o : Ob}, S[a]? = some o → Up [cm, ln] S2 S' → S'[a]? = some o := fun {S' a o} e h => h.at' _ _ (nlt (slt e)) (u02.get e)
  have h0S : ∀ {S' : Sto}, Up [cm, ln] S2 S' → Up [] S S' := fun {S'} h => u02.new h (fun x hx => by simp only [List.mem_cons, List.not_mem_nil, or_false] at hx; omega)
  have nU : ∀ {S' : Sto} {g : FN → Option (Option FN)} {ks : List FN} {L : List (Nat × FN)}, CT S' cm g ks → LN S' ln L → NoTu [cm, ln] S' := fun {S' g ks L} d q m hm xs e => by
    rcases List.mem_cons.mp hm with rfl | hm
    · obtain ⟨⟨kvs, e', _⟩, _⟩ := d
      rw [e'] at e; cases e
    · rw [List.mem_singleton.mp hm, q.1] at e; cases e
  simp (decide := true) only [ev, ex9, exA, exB, exD, decide_true, decide_false, Bool.not_true, Bool.not_false, not_true, not_false_iff, eq_self, List.length_map, if_true, if_false, Bool.false_eq_true, lenM_at (rdLT_lst (u02.get hrs)), rl]
  rw [rng1_ok (by omega), items_rng, Int.toNat_natCast]
  simp (decide := true) only [ev, ex9, exA, exB, exD, decide_true, decide_false, Bool.not_true, Bool.not_false, not_true, not_false_iff, eq_self, List.length_map, if_true, if_false, Bool.false_eq_true]
  -- one more
  have push : ∀ {S' : Sto} {g : FN → Option (Option FN)} {ks : List FN} {L : List (Nat × FN)} {m1 : Nat} {x : FN} {v : V} {o : Option FN}, Up [cm, ln] S2 S' → CT S' cm g ks → LN S' ln L → L.map Prod.snd = ks → ks.length ≤ h + w → NdF S' m1 x → x ∉ ks → BefF S' v o →
      ∃ S3, setT (.ref cm) (.ref m1) v S' = .ok () S3 ∧ Up [cm, ln] S2 S3 ∧ CT S3 cm (fputF g x o) (ks ++ [x]) ∧ LN S3 ln L ∧ (∀ m y, NdF S' m y → NdF S3 m y) ∧ Up [cm] S' S3 := fun {S' g ks L m1 x v o} hU hC hL hLk hkl hm hx hv => by
    obtain ⟨S3, e3, v3, n3, l3, hC3⟩ := hC.put (by omega) hm hx hv
    exact ⟨S3, e3, hU.trans (v3.mono (by simp)), hC3, hL.upM v3 n3 (by simp only [List.mem_singleton]; omega), fun m y hy => hy.upM v3 n3, v3⟩
  obtain ⟨σ3, S3, e3, g3, ks3, L3, rfl, hU3, hC3, hL3, hLk3, hRc3, hroot3, hlt3⟩ := forM_inv (chk := chkY) (tg := gI1 7) (ws := [7]) (body := b_reached_nodes_1) (items := (List.range h).map (oneR 0))
    (fun i σ S' => ∃ (g : FN → Option (Option FN)) (ks : List FN) (L : List (Nat × FN)), σ = [some (.ref rn), some (.ref wn), some (.ref c), some (.ref l), some (.ref u), some (.ref cm), some (.ref ln), none, none, none, none] ∧ Up [cm, ln] S2 S' ∧ CT S' cm g ks ∧ LN S' ln L ∧ L.map Prod.snd = ks ∧ Rch (rowsOf P) (rowsOf PL) (rowsOf PU) h w rs g ks ∧ (∀ k, k < i → 0 < rs.getD k 0 → (0, k) ∈ ks) ∧ ∀ x ∈ ks, x.2 < i)
    (fun _ _ _ _ => rfl) (fun i it σ S' hit hI => by
      obtain ⟨g, ks, L, rfl, hU, hC, hL, hLk, hRc, hroot, hlt⟩ := hI
      rw [List.getElem?_map] at hit
      obtain ⟨y, hy, rfl⟩ := Option.map_eq_some_iff.mp hit
      obtain ⟨hi, rfl⟩ := rng_at hy
      have z0 : (0 : Int) + (i : Int) = (i : Int) := by omega
      refine ⟨_, gI1_one _ _ _ _, ?_⟩
      have x1 : ixQ (.ref rn) (.int i) S' = .ok (.int (rs.getD i 0)) S' := ixQ_at (rdLT_lst (gS hrs hU)) (by rw [List.getElem?_map, List.getD_eq_getElem?_getD, List.getElem?_eq_getElem (by omega)]; rfl)
      have hkl := hRc.len
      by_cases hp : 0 < rs.getD i 0
      · have v4 := Up.app [] S' [.tup [.int 0, .int (i : Int)]]
        have w4 : NdF (S' ++ [.tup [.int 0, .int (i : Int)]]) S'.length (0, i) := snew _ _
        have hU4 := hU.trans v4.any
        have hni : ((0, i) : FN) ∉ ks := fun hm => by have := hlt _ hm; have : i < i := this; omega
        obtain ⟨S5, e5, hU5, hC5, hL5, _, v5⟩ := push (v := .non) (o := none) hU4 (hC.up v4) (hL.up v4) hLk hkl w4 hni rfl
        simp (decide := true) only [ev, ex9, exA, exB, exD, decide_true, decide_false, Bool.not_true, Bool.not_false, not_true, not_false_iff, eq_self, List.length_map, if_true, if_false, Bool.false_eq_true, b_reached_nodes_1, z0, x1, hp, e5, isLs_of (rdL_lst hL5.1)]
        have v6 := Up.app [] S5 [.tup [.int 0, .int (i : Int)]]
        have w6 : NdF (S5 ++ [.tup [.int 0, .int (i : Int)]]) S5.length (0, i) := snew _ _
        have hLl : L.length = ks.length := by rw [← hLk, List.length_map]
        obtain ⟨S7, e7, v7, n7, _, hL7⟩ := (hL5.up v6).snoc (S' := S5) (by omega) w6
        simp (decide := true) only [ev, ex9, exA, exB, exD, decide_true, decide_false, Bool.not_true, Bool.not_false, not_true, not_false_iff, eq_self, List.length_map, if_true, if_false, Bool.false_eq_true, e7, Tn_nx]
        refine ⟨_, ks ++ [(0, i)], _, trivial, (hU5.trans v6.any).trans (v7.mono (by simp)), (hC5.up v6).upM v7 n7 (by simp only [List.mem_singleton]; omega), hL7, by rw [List.map_append, hLk]; rfl, hRc.add hC.keys hni (.inl ⟨rfl, hi⟩) ⟨rfl, hp⟩, fun k hk hkp => ?_, fun x hx => ?_⟩
        · by_cases e : k = i
          · subst e; simp
          · exact List.mem_append_left _ (hroot k (by omega) hkp)
        · rcases List.mem_append.mp hx with hx | hx
          · have := hlt x hx; omega
          · rw [List.mem_singleton.mp hx]; show i < i + 1; omega
      · simp (decide := true) only [ev, ex9, exA, exB, exD, decide_true, decide_false, Bool.not_true, Bool.not_false, not_true, not_false_iff, eq_self, List.length_map, if_true, if_false, Bool.false_eq_true, b_reached_nodes_1, z0, x1, hp, Tn_nx]
        refine ⟨g, ks, L, trivial, hU, hC, hL, hLk, hRc, fun k hk hkp => ?_, fun x hx => by have := hlt x hx; omega⟩
        by_cases e : k = i
        · subst e; exact absurd hkp hp
        · exact hroot k (by omega) hkp) (σ := [some (.ref rn), some (.ref wn), some (.ref c), some (.ref l), some (.ref u), some (.ref cm), some (.ref ln), none, none, none, none]) (S := S2)
    ⟨_, [], [], rfl, Up.refl _ _, c2, ⟨q2, fun _ h => nomatch h⟩, rfl, Rch.new _ _ _ h w rs, fun k hk => by omega, fun _ h => nomatch h⟩
  rw [List.length_map, List.length_range] at hroot3
  simp (decide := true) only [ev, ex9, exA, exB, exD, decide_true, decide_false, Bool.not_true, Bool.not_false, not_true, not_false_iff, eq_self, List.length_map, if_true, if_false, Bool.false_eq_true, e3]
  let Z : V → Sto → Prop := fun v S' => ∃ (tp : Nat) (g : FN → Option (Option FN)) (ks : List FN) (m : Nat) (x : FN), v = .ref tp ∧ Up [cm, ln] S2 S' ∧ S'[tp]? = some (.tup [.ref cm, .ref m]) ∧ CT S' cm g ks ∧ Rch (rowsOf P) (rowsOf PL) (rowsOf PU) h w rs g ks ∧ NdF S' m x ∧ x ∈ ks ∧ x.1 = 1 ∧ 0 < ws.getD x.2 0
  have hw := whileM_ret (t := t_reached_nodes_1) (ws := [9, 10]) (body := b_reached_nodes_3)
    (fun σ S' => ∃ (at_ : Nat) (g : FN → Option (Option FN)) (ks : List FN) (L : List (Nat × FN)), σ = [some (.ref rn), some (.ref wn), some (.ref c), some (.ref l), some (.ref u), some (.ref cm), some (.ref ln), none, some (.int (at_ : Int)), none, none] ∧ Up [cm, ln] S2 S' ∧ CT S' cm g ks ∧ LN S' ln L ∧ L.map Prod.snd = ks ∧ Rch (rowsOf P) (rowsOf PL) (rowsOf PU) h w rs g ks ∧ (∀ k, k < h → 0 < rs.getD k 0 → (0, k) ∈ ks) ∧ at_ ≤ ks.length ∧
      ∀ (i : Nat) (x : FN), i < at_ → ks[i]? = some x → (∀ y, nxt (rowsOf P) (rowsOf PL) (rowsOf PU) h w x y → y ∈ ks) ∧ (x.1 = 1 → ws.getD x.2 0 ≤ 0))
    (fun σ S' => ∃ (v8 : V) (g : FN → Option (Option FN)) (ks : List FN), σ = [some (.ref rn), some (.ref wn), some (.ref c), some (.ref l), some (.ref u), some (.ref cm), some (.ref ln), none, some v8, none, none] ∧ Up [cm, ln] S2 S' ∧ CT S' cm g ks ∧ Rch (rowsOf P) (rowsOf PL) (rowsOf PU) h w rs g ks ∧ (∀ k, k < h → 0 < rs.getD k 0 → (0, k) ∈ ks) ∧
      ∀ x ∈ ks, (∀ y, nxt (rowsOf P) (rowsOf PL) (rowsOf PU) h w x y → y ∈ ks) ∧ (x.1 = 1 → ws.getD x.2 0 ≤ 0))
    Z (fun σ _ => match σ.getD 8 none with | some (.int i) => h + w + 1 - i.toNat | _ => 0)
    (fun σ S' hI => by
      obtain ⟨at_, g, ks, L, rfl, hU, hC, hL, hLk, hRc, hroot, hat, hdone⟩ := hI
      have hkl := hRc.len
      have hLl : L.length = ks.length := by rw [← hLk, List.length_map]
      by_cases hlt : at_ < ks.length
      · right
        have hlt' : (at_ : Int) < (L.length : Int) := by omega
        refine ⟨S', by simp (decide := true) only [ev, ex9, exA, exB, exD, decide_true, decide_false, Bool.not_true, Bool.not_false, not_true, not_false_iff, eq_self, List.length_map, if_true, if_false, Bool.false_eq_true, t_reached_nodes_1, lenM_at (rdLT_lst hL.1), hlt'], ?_⟩
        obtain ⟨x, hx⟩ : ∃ x, ks[at_]? = some x := ⟨ks[at_], List.getElem?_eq_getElem hlt⟩
        have hxm := List.mem_of_getElem? hx
        have hxv := hRc.val x hxm
        obtain ⟨mx, hmx, nx⟩ := hL.at' (by rw [hLk]; exact hx)
        have i1 : ixQ (.ref ln) (.int at_) S' = .ok (.ref mx) S' := ixQ_at (rdLT_lst hL.1) hmx
        have nx' : S'[mx]? = some (.tup [.int (x.1 : Int), .int (x.2 : Int)]) := nx
        have j0 : ixQ (.ref mx) (.int 0) S' = .ok (.int (x.1 : Int)) S' := ixQ_at (k := 0) (rdLT_tup nx') rfl
        have j1 : ixQ (.ref mx) (.int 1) S' = .ok (.int (x.2 : Int)) S' := ixQ_at (k := 1) (rdLT_tup nx') rfl
        -- on
        have go : (x.1 = 1 → ws.getD x.2 0 ≤ 0) → ∃ S3, kFor (kIL (r_nodes_next [.ref mx, .ref c, .ref l, .ref u] S')) (gI1 10) [10] b_reached_nodes_2 [some (.ref rn), some (.ref wn), some (.ref c), some (.ref l), some (.ref u), some (.ref cm), some (.ref ln), none, some (.int (at_ : Int)), some (.ref mx), none] = .ok (.nx [some (.ref rn), some (.ref wn), some (.ref c), some (.ref l), some (.ref u), some (.ref cm), some (.ref ln), none, some (.int (at_ : Int)), some (.ref mx), none]) S3 ∧
            ∃ (g : FN → Option (Option FN)) (ks : List FN) (L : List (Nat × FN)), Up [cm, ln] S2 S3 ∧ CT S3 cm g ks ∧ LN S3 ln L ∧ L.map Prod.snd = ks ∧ Rch (rowsOf P) (rowsOf PL) (rowsOf PU) h w rs g ks ∧ (∀ k, k < h → 0 < rs.getD k 0 → (0, k) ∈ ks) ∧ at_ + 1 ≤ ks.length ∧
              ∀ (i : Nat) (x : FN), i < at_ + 1 → ks[i]? = some x → (∀ y, nxt (rowsOf P) (rowsOf PL) (rowsOf PU) h w x y → y ∈ ks) ∧ (x.1 = 1 → ws.getD x.2 0 ≤ 0) := fun hwx => by
          obtain ⟨S4, q, N, e4, v4, hq, hN, hNy⟩ := nodes_next_spec (tS t hU) (tS tl hU) (tS tu hU) hR hRL hRU hl hlL hlU h8 w8 w1 hxv nx
          have hqn : q ∉ [cm, ln] := by
            have := hC.lt
            have := slt hL.1
            simp only [List.mem_cons, List.not_mem_nil, or_false]; omega
          simp (decide := true) only [ev, ex9, exA, exB, exD, decide_true, decide_false, Bool.not_true, Bool.not_false, not_true, not_false_iff, eq_self, List.length_map, if_true, if_false, Bool.false_eq_true, e4, rdL_lst hN.1]
          rw [items_nd]
          have hU4 := hU.trans v4.any
          have hC4 := hC.up v4
          have hL4 := hL.up v4
          have nt4 := nU hC4 hL4
          obtain ⟨σ5, S5, e5, g5, ks5, L5, rfl, hU5, hC5, hL5, hLk5, hRc5, hroot5, hat5, hdone5, hin5⟩ := forM_inv (chk := chkL (.ref q) (N.map fun p => V.ref p.1)) (tg := gI1 10) (ws := [10]) (body := b_reached_nodes_2) (items := N.map fun p => Itm.one (.ref p.1))
            (fun j σ S5 => ∃ (g : FN → Option (Option FN)) (ks : List FN) (L : List (Nat × FN)), σ = [some (.ref rn), some (.ref wn), some (.ref c), some (.ref l), some (.ref u), some (.ref cm), some (.ref ln), none, some (.int (at_ : Int)), some (.ref mx), none] ∧ Up [cm, ln] S4 S5 ∧ CT S5 cm g ks ∧ LN S5 ln L ∧ L.map Prod.snd = ks ∧ Rch (rowsOf P) (rowsOf PL) (rowsOf PU) h w rs g ks ∧ (∀ k, k < h → 0 < rs.getD k 0 → (0, k) ∈ ks) ∧ ks[at_]? = some x ∧
              (∀ (i : Nat) (x : FN), i < at_ → ks[i]? = some x → (∀ y, nxt (rowsOf P) (rowsOf PL) (rowsOf PU) h w x y → y ∈ ks) ∧ (x.1 = 1 → ws.getD x.2 0 ≤ 0)) ∧ ∀ (i : Nat) (y : FN), i < j → (N.map Prod.snd)[i]? = some y → y ∈ ks)
            (fun j σ S5 hI => by
              obtain ⟨g, ks, L, _, hU5, _⟩ := hI
              exact chkL_of (rdL_lst (hU5.at' _ _ hqn hN.1))) (fun j it σ S5 hit hI => by
              obtain ⟨g, ks, L, rfl, hU5, hC5, hL5, hLk5, hRc5, hroot5, hat5, hdone5, hin5⟩ := hI
              rw [List.getElem?_map] at hit
              obtain ⟨p, hp, rfl⟩ := Option.map_eq_some_iff.mp hit
              refine ⟨_, gI1_one _ _ _ _, ?_⟩
              have hpm := List.mem_of_getElem? hp
              have ny := (hN.2 p hpm).upM hU5 nt4
              have nx5 := (nx.up v4).upM hU5 nt4
              have hny := (hNy p.2).mp (List.mem_map_of_mem hpm)
              have hkl5 := hRc5.len
              have hLl5 : L.length = ks.length := by rw [← hLk5, List.length_map]
              have hatl := (List.getElem?_eq_some_iff.mp hat5).1
              by_cases hin : p.2 ∈ ks
              · simp (decide := true) only [ev, ex9, exA, exB, exD, decide_true, decide_false, Bool.not_true, Bool.not_false, not_true, not_false_iff, eq_self, List.length_map, if_true, if_false, Bool.false_eq_true, b_reached_nodes_2, hC5.nin ny, hin, Tn_nx]
                refine ⟨g, ks, L, trivial, hU5, hC5, hL5, hLk5, hRc5, hroot5, hat5, hdone5, fun i y hi hy => ?_⟩
                by_cases e : i = j
                · subst e
                  rw [List.getElem?_map, hp] at hy
                  cases hy
                  exact hin
                · exact hin5 i y (by omega) hy
              · obtain ⟨S6, e6, hU6, hC6, hL6, keep, v6⟩ := push (v := .ref mx) (o := some x) (hU4.trans hU5) hC5 hL5 hLk5 hkl5 ny hin ⟨mx, rfl, nx5⟩
                obtain ⟨S7, e7, v7, n7, _, hL7⟩ := hL6.snoc (S' := S6) (by omega) (keep _ _ ny)
                simp (decide := true) only [ev, ex9, exA, exB, exD, decide_true, decide_false, Bool.not_true, Bool.not_false, not_true, not_false_iff, eq_self, List.length_map, if_true, if_false, Bool.false_eq_true, b_reached_nodes_2, hC5.nin ny, hin, e6, isLs_of (rdL_lst hL6.1), e7, Tn_nx]
                refine ⟨_, ks ++ [p.2], _, trivial, (hU5.trans (v6.mono (by simp))).trans (v7.mono (by simp)), hC6.upM v7 n7 (by simp only [List.mem_singleton]; omega), hL7, by rw [List.map_append, hLk5]; rfl, hRc5.add hC5.keys hin hny.val.2 ⟨List.mem_of_getElem? hat5, hny⟩, fun k hk hkp => List.mem_append_left _ (hroot5 k hk hkp), by rw [List.getElem?_append_left hatl]; exact hat5, fun i z hi hz => ?_, fun i y hi hy => ?_⟩
                · rw [List.getElem?_append_left (by omega)] at hz
                  obtain ⟨h1, h2⟩ := hdone5 i z hi hz
                  exact ⟨fun y hy => List.mem_append_left _ (h1 y hy), h2⟩
                · by_cases e : i = j
                  · subst e
                    rw [List.getElem?_map, hp] at hy
                    cases hy
                    simp
                  · exact List.mem_append_left _ (hin5 i y (by omega) hy)) (σ := [some (.ref rn), some (.ref wn), some (.ref c), some (.ref l), some (.ref u), some (.ref cm), some (.ref ln), none, some (.int (at_ : Int)), some (.ref mx), none]) (S := S4)
              ⟨g, ks, L, rfl, Up.refl _ _, hC4, hL4, hLk, hRc, hroot, hx, hdone, fun i y hi => by omega⟩
          rw [e5]
          rw [List.length_map] at hin5
          have hatl := (List.getElem?_eq_some_iff.mp hat5).1
          refine ⟨S5, rfl, g5, ks5, L5, hU4.trans hU5, hC5, hL5, hLk5, hRc5, hroot5, hatl, fun i z hi hz => ?_⟩
          by_cases e : i = at_
          · subst e
            rw [hat5] at hz
            cases hz
            refine ⟨fun y hy => ?_, hwx⟩
            obtain ⟨k, hk⟩ := List.mem_iff_getElem?.mp ((hNy y).mpr hy)
            have hkl := (List.getElem?_eq_some_iff.mp hk).1
            rw [List.length_map] at hkl
            exact hin5 k y hkl hk
          · exact hdone5 i z (by omega) hz
        rcases hxv with ⟨hx1, hx2⟩ | ⟨hx1, hx2⟩
        · have ne : ¬ ((x.1 : Int) = 1) := by omega
          obtain ⟨S3, e3, g3, ks3, L3, hh⟩ := go (fun h1 => by omega)
          simp (decide := true) only [ev, ex9, exA, exB, exD, decide_true, decide_false, Bool.not_true, Bool.not_false, not_true, not_false_iff, eq_self, List.length_map, if_true, if_false, Bool.false_eq_true, b_reached_nodes_3, i1, j0, ne, e3, Tr_nx]
          refine ⟨⟨at_ + 1, g3, ks3, L3, by rw [Int.natCast_add]; rfl, hh⟩, ?_⟩
          show h + w + 1 - ((at_ : Int) + 1).toNat < h + w + 1 - (at_ : Int).toNat
          omega
        · have ee : (x.1 : Int) = 1 := by omega
          have x1 : ixQ (.ref wn) (.int (x.2 : Int)) S' = .ok (.int (ws.getD x.2 0)) S' := ixQ_at (rdLT_lst (gS hws hU)) (by rw [List.getElem?_map, List.getD_eq_getElem?_getD, List.getElem?_eq_getElem (by omega)]; rfl)
          by_cases hp : 0 < ws.getD x.2 0
          · simp (decide := true) only [ev, ex9, exA, exB, exD, decide_true, decide_false, Bool.not_true, Bool.not_false, not_true, not_false_iff, eq_self, List.length_map, if_true, if_false, Bool.false_eq_true, b_reached_nodes_3, i1, j0, ee, j1, x1, hp, Tr_rt]
            have v1 := Up.app [] S' [.tup [.ref cm, .ref mx]]
            exact ⟨_, g, ks, mx, x, rfl, hU.trans v1.any, snew _ _, hC.up v1, hRc, nx.up v1, hxm, hx1, hp⟩
          · obtain ⟨S3, e3, g3, ks3, L3, hh⟩ := go (fun _ => by omega)
            simp (decide := true) only [ev, ex9, exA, exB, exD, decide_true, decide_false, Bool.not_true, Bool.not_false, not_true, not_false_iff, eq_self, List.length_map, if_true, if_false, Bool.false_eq_true, b_reached_nodes_3, i1, j0, ee, j1, x1, hp, e3, Tr_nx]
            refine ⟨⟨at_ + 1, g3, ks3, L3, by rw [Int.natCast_add]; rfl, hh⟩, ?_⟩
            show h + w + 1 - ((at_ : Int) + 1).toNat < h + w + 1 - (at_ : Int).toNat
            omega
      · left
        have hlt' : ¬ (at_ : Int) < (L.length : Int) := by omega
        refine ⟨S', by simp (decide := true) only [ev, ex9, exA, exB, exD, decide_true, decide_false, Bool.not_true, Bool.not_false, not_true, not_false_iff, eq_self, List.length_map, if_true, if_false, Bool.false_eq_true, t_reached_nodes_1, lenM_at (rdLT_lst hL.1), hlt'], _, g, ks, rfl, hU, hC, hRc, hroot, fun x hx => ?_⟩
        obtain ⟨i, hi⟩ := List.mem_iff_getElem?.mp hx
        have hil := (List.getElem?_eq_some_iff.mp hi).1
        exact hdone i x (by omega) hi) (σ := [some (.ref rn), some (.ref wn), some (.ref c), some (.ref l), some (.ref u), some (.ref cm), some (.ref ln), none, some (.int 0), none, none]) (S := S3)
    ⟨0, g3, ks3, L3, rfl, hU3, hC3, hL3, hLk3, hRc3, hroot3, Nat.zero_le _, fun i x hi => by omega⟩
  rcases hw with ⟨σ', S4, e4, v8, g, ks, rfl, hU, hC, hRc, hroot, hall⟩ | ⟨v, S4, e4, tp, g, ks, m, x, rfl, hU, htp, hC, hRc, hm, hx, hx1, hxp⟩
  · simp (decide := true) only [ev, ex9, exA, exB, exD, decide_true, decide_false, Bool.not_true, Bool.not_false, not_true, not_false_iff, eq_self, List.length_map, if_true, if_false, Bool.false_eq_true, e4]
    have v1 := Up.app [] S4 [.tup [.ref cm, .non]]
    exact ⟨_, _, cm, .non, g, ks, rfl, (h0S hU).trans v1, snew _ _, by omega, hC.up v1, hRc, .inl ⟨rfl, fun x hx => (hall x hx).1, hroot, fun j hj => (hall _ hj).2 rfl⟩⟩
  · simp (decide := true) only [ev, ex9, exA, exB, exD, decide_true, decide_false, Bool.not_true, Bool.not_false, not_true, not_false_iff, eq_self, List.length_map, if_true, if_false, Bool.false_eq_true, e4]
    exact ⟨_, tp, cm, .ref m, g, ks, rfl, h0S hU, htp, by omega, hC, hRc, .inr ⟨m, x, rfl, hm, hx, hx1, hxp⟩⟩

/-! way_back, rooms_on, pushed_along -/
theorem fnd_rev {f : List FN} {k : Nat} (h : k < f.length) : fnd f.reverse k = fnd f (f.length - 1 - k) := by
  have h1 := fnd_at (p := f.reverse) (k := k) (by rw [List.length_reverse]; exact h)
  rw [List.getElem?_reverse h, fnd_at (by omega)] at h1
  exact (Option.some.inj h1).symm
theorem fnd_app {f : List FN} {x : FN} {k : Nat} (h : k < f.length) : fnd (f ++ [x]) k = fnd f k := by
  unfold fnd
  rw [List.getD_eq_getElem?_getD, List.getD_eq_getElem?_getD, List.getElem?_append_left h]
theorem fnd_last {f : List FN} {x : FN} : fnd (f ++ [x]) f.length = x := by
  unfold fnd
  rw [List.getD_eq_getElem?_getD, List.getElem?_append_right (Nat.le_refl _), Nat.sub_self]; rfl
/-- from a node back -/
structure Bk (T lo hi : List (List Int)) (h w : Nat) (g : FN → Option (Option FN)) (ks : List FN) (x : FN) (f : List FN) (o : Option FN) (n : Nat) : Prop where
  nod : f.Nodup
  st : ∀ k, k + 1 < f.length → nxt T lo hi h w (fnd f (k + 1)) (fnd f k)
  fst : 0 < f.length → fnd f 0 = x
  cur : match o with
    | some y => ∃ i, ks[i]? = some y ∧ n = i + 1 ∧ (∀ a ∈ f, ∃ j, ks[j]? = some a ∧ i < j) ∧ (f.length = 0 → y = x) ∧ (0 < f.length → nxt T lo hi h w y (fnd f (f.length - 1)))
    | none => 0 < f.length ∧ g (fnd f (f.length - 1)) = some none
theorem Bk.step {T lo hi : List (List Int)} {h w : Nat} {rs : List Int} {g : FN → Option (Option FN)} {ks : List FN} {x y : FN} {f : List FN} {n : Nat} {o : Option FN} (b : Bk T lo hi h w g ks x f (some y) n) (r : Rch T lo hi h w rs g ks) (hg : g y = some o) : ∃ m, m < n ∧ Bk T lo hi h w g ks x (f ++ [y]) o m := by
  obtain ⟨i, h1, h2, h3, h4, h5⟩ := b.cur
  have hy : y ∉ f := fun hm => by
    obtain ⟨j, h6, h7⟩ := h3 y hm
    obtain ⟨hil, h1⟩ := List.getElem?_eq_some_iff.mp h1
    obtain ⟨hjl, h6⟩ := List.getElem?_eq_some_iff.mp h6
    have := (List.getElem_inj r.nod).mp (by rw [h1, h6] : ks[i] = ks[j])
    omega
  have nod : (f ++ [y]).Nodup := by
    rw [List.nodup_append]
    exact ⟨b.nod, by simp, fun a ha c hc e => by rw [List.mem_singleton.mp hc] at e; exact hy (by rw [← e]; exact ha)⟩
  have st : ∀ k, k + 1 < (f ++ [y]).length → nxt T lo hi h w (fnd (f ++ [y]) (k + 1)) (fnd (f ++ [y]) k) := fun k hk => by
    rw [List.length_append, List.length_singleton] at hk
    by_cases e : k + 1 < f.length
    · rw [fnd_app e, fnd_app (by omega)]; exact b.st k e
    · have e2 : k + 1 = f.length := by omega
      rw [e2, fnd_last, fnd_app (by omega), show k = f.length - 1 by omega]
      exact h5 (by omega)
  have fst : 0 < (f ++ [y]).length → fnd (f ++ [y]) 0 = x := fun _ => by
    by_cases e : 0 < f.length
    · rw [fnd_app e]; exact b.fst e
    · have e2 : f = [] := List.length_eq_zero_iff.mp (by omega)
      subst e2
      exact h4 rfl
  have last : fnd (f ++ [y]) ((f ++ [y]).length - 1) = y := by rw [List.length_append, List.length_singleton, Nat.add_sub_cancel]; exact fnd_last
  cases o with
  | none => exact ⟨0, by omega, nod, st, fst, by simp, by rw [last]; exact hg⟩
  | some p =>
    obtain ⟨j, h6, h7, h8⟩ := r.back i y p h1 hg
    refine ⟨j + 1, by omega, nod, st, fst, j, h7, rfl, fun a ha => ?_, fun e => by simp at e, fun _ => by rw [last]; exact h8⟩
    rcases List.mem_append.mp ha with ha | ha
    · obtain ⟨k, h9, h10⟩ := h3 a ha
      exact ⟨k, h9, by omega⟩
    · rw [List.mem_singleton.mp ha]; exact ⟨i, h1, h6⟩
theorem way_back_spec {S : Sto} {cm m h w : Nat} {T lo hi : List (List Int)} {rs : List Int} {g : FN → Option (Option FN)} {ks : List FN} {x : FN} (hC : CT S cm g ks) (r : Rch T lo hi h w rs g ks) (hm : NdF S m x) (hx : x ∈ ks) (h8 : h ≤ 1000) (w8 : w ≤ 1000) :
    ∃ (S' : Sto) (q : Nat) (L : List (Nat × FN)), r_way_back [.ref cm, .ref m] S = .ok (.ref q) S' ∧ Up [] S S' ∧ S.length ≤ q ∧ LN S' q L ∧ Way T lo hi h w (L.map Prod.snd) ∧ g (fnd (L.map Prod.snd) 0) = some none ∧ fnd (L.map Prod.snd) (L.length - 1) = x := by
  simp (decide := true) only [ev, ex9, exA, exB, exD, decide_true, decide_false, Bool.not_true, Bool.not_false, not_true, not_false_iff, eq_self, List.length_map, if_true, if_false, Bool.false_eq_true, r_way_back_eq, c_way_back]
  have u1 := Up.app [] S [.lst []]
  have q1 := snew S (.lst [])
  have c1 := hC.up u1
  have m1 := hm.up u1
  have lcm := hC.lt
  generalize S ++ [Ob.lst []] = S1 at u1 q1 c1 m1 ⊢
  obtain ⟨i0, hi0⟩ := List.mem_iff_getElem?.mp hx
  have hkl := r.len
  obtain ⟨σ2, S2, e2, L, rfl, u2, hL, n2, hB⟩ := whileM_dn (t := t_way_back_1) (ws := []) (body := b_way_back_1)
    (fun n σ S' => ∃ (v : V) (o : Option FN) (L : List (Nat × FN)), σ = [some (.ref cm), some v, some (.ref S.length)] ∧ Up [S.length] S1 S' ∧ LN S' S.length L ∧ BefF S' v o ∧ Bk T lo hi h w g ks x (L.map Prod.snd) o n)
    (fun σ S' => ∃ (L : List (Nat × FN)), σ = [some (.ref cm), some .non, some (.ref S.length)] ∧ Up [S.length] S1 S' ∧ LN S' S.length L ∧ ∃ n, Bk T lo hi h w g ks x (L.map Prod.snd) none n)
    (fun n σ S' hI => by
      obtain ⟨v, o, L, rfl, u, hL, hv, hB⟩ := hI
      have nt : NoTu [S.length] S1 := fun m' hm' xs e' => by rw [List.mem_singleton.mp hm', q1] at e'; cases e'
      cases o with
      | none =>
        have hv : v = .non := hv
        subst hv
        exact .inl ⟨S', by simp (decide := true) only [ev, ex9, exA, exB, exD, decide_true, decide_false, Bool.not_true, Bool.not_false, not_true, not_false_iff, eq_self, List.length_map, if_true, if_false, Bool.false_eq_true, t_way_back_1], L, rfl, u, hL, n, hB⟩
      | some y =>
        obtain ⟨my, rfl, ny⟩ := hv
        right
        obtain ⟨i, h1, h2, h3, h4, h5⟩ := id hB.cur
        have hg : (g y).isSome = true := (hC.keys y).mpr (List.mem_of_getElem? h1)
        obtain ⟨o, ho⟩ := Option.isSome_iff_exists.mp hg
        have hLl : L.length ≤ h + w := by
          have := nodup_le (fun r : FN => r) (xs := L.map Prod.snd) (ys := ks) (by rw [List.map_id']; exact hB.nod) (fun a ha => by obtain ⟨j, h6, _⟩ := h3 a ha; exact List.mem_of_getElem? h6)
          rw [List.length_map] at this
          omega
        obtain ⟨S3, e3, v3, n3, _, hL3⟩ := hL.snoc (S' := S') (by omega) ny
        have hU3 := u.trans v3
        have c3 := c1.upM hU3 nt (by simp only [List.mem_singleton]; omega)
        obtain ⟨v, e4, hv⟩ := c3.get (ny.upM v3 n3) ho
        obtain ⟨m', hm', hB'⟩ := hB.step r ho
        refine ⟨S', by simp (decide := true) only [ev, ex9, exA, exB, exD, decide_true, decide_false, Bool.not_true, Bool.not_false, not_true, not_false_iff, eq_self, List.length_map, if_true, if_false, Bool.false_eq_true, t_way_back_1, notNM_ref], ?_⟩
        simp (decide := true) only [ev, ex9, exA, exB, exD, decide_true, decide_false, Bool.not_true, Bool.not_false, not_true, not_false_iff, eq_self, List.length_map, if_true, if_false, Bool.false_eq_true, b_way_back_1, isLs_of (rdL_lst hL.1), e3, e4, Tn_nx]
        exact ⟨m', hm', v, o, _, rfl, hU3, hL3, hv, by rw [List.map_append]; exact hB'⟩) (n := i0 + 1) (σ := [some (.ref cm), some (.ref m), some (.ref S.length)]) (S := S1)
    ⟨.ref m, some x, [], rfl, Up.refl _ _, ⟨q1, fun _ h => nomatch h⟩, ⟨m, rfl, m1⟩, List.nodup_nil, fun k hk => by simp at hk, fun hk => by simp at hk, i0, hi0, rfl, (fun _ h => nomatch h), (fun _ => rfl), fun hk => by simp at hk⟩
  rw [e2]
  simp (decide := true) only [ev, ex9, exA, exB, exD, decide_true, decide_false, Bool.not_true, Bool.not_false, not_true, not_false_iff, eq_self, List.length_map, if_true, if_false, Bool.false_eq_true, revL_at (rdL_lst hL.1)]
  have u3 := u1.new' u2 (by simp)
  have v4 := Up.app [] S2 [.lst (L.map fun p => V.ref p.1).reverse]
  obtain ⟨hp, hg⟩ := hB.cur
  rw [List.length_map] at hp hg
  have hl2 : (L.map Prod.snd).length = L.length := List.length_map ..
  refine ⟨_, _, L.reverse, rfl, u3.trans v4, u3.len, ⟨by rw [snew, List.map_reverse], fun p hp => (hL.2 p (List.mem_reverse.mp hp)).up v4⟩, ?_, ?_, ?_⟩
  · rw [List.map_reverse]
    refine ⟨by have := hB.nod; unfold List.Nodup at this ⊢; rw [List.pairwise_reverse]; exact this.imp fun h e => h e.symm, by rw [List.length_reverse, hl2]; exact hp, fun k hk => ?_⟩
    rw [List.length_reverse] at hk
    rw [fnd_rev hk, fnd_rev (by omega)]
    have := hB.st ((L.map Prod.snd).length - 1 - (k + 1)) (by omega)
    rwa [show (L.map Prod.snd).length - 1 - (k + 1) + 1 = (L.map Prod.snd).length - 1 - k by omega] at this
  · rw [List.map_reverse, fnd_rev (by omega), hl2, Nat.sub_zero]; exact hg
  · rw [List.map_reverse, List.length_reverse, fnd_rev (by omega), hl2, Nat.sub_self]; exact hB.fst (by omega)
theorem zip_at {xs : List V} {i : Nat} {it : Itm} (h : (zipI xs.dropLast (xs.drop 1))[i]? = some it) : i + 1 < xs.length ∧ ∃ a b, xs[i]? = some a ∧ xs[i + 1]? = some b ∧ it = .many [a, b] := by
  unfold zipI at h
  rw [List.getElem?_map] at h
  obtain ⟨p, hp, rfl⟩ := Option.map_eq_some_iff.mp h
  obtain ⟨a, b⟩ := p
  rw [List.getElem?_zip_eq_some] at hp
  obtain ⟨h1, h2⟩ := hp
  rw [List.getElem?_drop, Nat.add_comm] at h2
  have hl := (List.getElem?_eq_some_iff.mp h2).1
  have h1 : xs.dropLast[i]? = some a := h1
  rw [List.dropLast_eq_take, List.getElem?_take, if_pos (by omega)] at h1
  exact ⟨hl, a, b, h1, h2, rfl⟩
theorem zip_len (xs : List V) : (zipI xs.dropLast (xs.drop 1)).length = xs.length - 1 := by
  unfold zipI
  rw [List.length_map, List.length_zip, List.length_dropLast, List.length_drop, Nat.min_self]
theorem NdF.i0 {S : Sto} {m : Nat} {x : FN} (h : NdF S m x) : ixQ (.ref m) (.int 0) S = .ok (.int (x.1 : Int)) S := ixQ_at (k := 0) (rdLT_tup (show S[m]? = some (.tup [.int (x.1 : Int), .int (x.2 : Int)]) from h)) rfl
theorem NdF.i1 {S : Sto} {m : Nat} {x : FN} (h : NdF S m x) : ixQ (.ref m) (.int 1) S = .ok (.int (x.2 : Int)) S := ixQ_at (k := 1) (rdLT_tup (show S[m]? = some (.tup [.int (x.1 : Int), .int (x.2 : Int)]) from h)) rfl
theorem rdc {S : Sto} {b w i j : Nat} {Q : Rws} (t : Tb S b Q) (hR : Rect w (rowsOf Q)) (hi : i < Q.length) (hj : j < w) : ∃ nm : Nat, ixQ (.ref b) (.int (i : Int)) S = .ok (.ref nm) S ∧ ixQ (.ref nm) (.int (j : Int)) S = .ok (.int (cl (rowsOf Q) i j)) S := by
  obtain ⟨nm, x1, x2⟩ := cell_rd (i := (i : Int)) (j := (j : Int)) t hR (by omega) (by omega) (by omega) (by omega)
  have x2 := x2 (j : Int) (by omega) (by omega)
  rw [Int.toNat_natCast, Int.toNat_natCast] at x2
  exact ⟨nm, x1, x2⟩
theorem rooms_on_spec {S : Sto} {q c l u h w : Nat} {L : List (Nat × FN)} {P PL PU : Rws} (hL : LN S q L) (t : Tb S c P) (tl : Tb S l PL) (tu : Tb S u PU) (hR : Rect w (rowsOf P)) (hRL : Rect w (rowsOf PL)) (hRU : Rect w (rowsOf PU)) (hl : P.length = h) (hlL : PL.length = h) (hlU : PU.length = h)
    (W : Way (rowsOf P) (rowsOf PL) (rowsOf PU) h w (L.map Prod.snd)) (hLl : L.length ≤ 10000) :
    ∃ (S' : Sto) (b : Nat), r_rooms_on [.ref q, .ref c, .ref l, .ref u] S = .ok (.ref b) S' ∧ Up [] S S' ∧ S.length ≤ b ∧ S'[b]? = some (.lst (((List.range (L.length - 1)).map fun k => room (rowsOf P) (rowsOf PL) (rowsOf PU) (fnd (L.map Prod.snd) k) (fnd (L.map Prod.snd) (k + 1))).map V.int)) := by
  have u1 := Up.app [] S [.lst []]
  have q1 := snew S (.lst [])
  have hL1 := hL.up u1
  have u2 := Up.app [] (S ++ [.lst []]) [.lst (L.map fun p => V.ref p.1).dropLast]
  have hL2 := hL1.up u2
  simp (decide := true) only [ev, ex9, exA, exB, exD, decide_true, decide_false, Bool.not_true, Bool.not_false, not_true, not_false_iff, eq_self, List.length_map, if_true, if_false, Bool.false_eq_true, r_rooms_on_eq, c_rooms_on, cutM_init (rdL_lst hL1.1), cutM_drop (k := 1) (by decide) (rdL_lst hL2.1)]
  have k2 := snew (S ++ [.lst []]) (.lst (L.map fun p => V.ref p.1).dropLast)
  have q2 := u2.get q1
  have lz : S.length < (S ++ [Ob.lst []]).length := slt q1
  generalize S ++ [Ob.lst []] = S1 at u1 u2 k2 q2 hL2 lz ⊢
  have k3 := (Up.app [] (S1 ++ [.lst (L.map fun p => V.ref p.1).dropLast]) [.lst ((L.map fun p => V.ref p.1).drop (Int.toNat 1))]).get k2
  have k4 := snew (S1 ++ [.lst (L.map fun p => V.ref p.1).dropLast]) (.lst ((L.map fun p => V.ref p.1).drop (Int.toNat 1)))
  have q3 := (Up.app [] (S1 ++ [.lst (L.map fun p => V.ref p.1).dropLast]) [.lst ((L.map fun p => V.ref p.1).drop (Int.toNat 1))]).get q2
  have u3 := (u1.trans u2).trans (Up.app [] _ [.lst ((L.map fun p => V.ref p.1).drop (Int.toNat 1))])
  have lz2 : S1.length < (S1 ++ [Ob.lst (L.map fun p => V.ref p.1).dropLast]).length := slt k2
  simp (decide := true) only [ev, ex9, exA, exB, exD, decide_true, decide_false, Bool.not_true, Bool.not_false, not_true, not_false_iff, eq_self, List.length_map, if_true, if_false, Bool.false_eq_true, rdL_lst k3, rdL_lst k4]
  generalize (S1 ++ [Ob.lst (L.map fun p => V.ref p.1).dropLast]) = S2 at k3 k4 q3 u3 lz2 ⊢
  generalize S2 ++ [Ob.lst ((L.map fun p => V.ref p.1).drop (Int.toNat 1))] = S3 at k3 k4 q3 u3 ⊢
  rw [show Int.toNat 1 = 1 from rfl] at k4 ⊢
  obtain ⟨σ4, S4, e4, rfl, u4, h4⟩ := forM_inv (chk := chkZ (.ref S1.length) (.ref S2.length) (L.map fun p => V.ref p.1).dropLast ((L.map fun p => V.ref p.1).drop 1)) (tg := gIT [5, 6]) (ws := [5, 6]) (body := b_rooms_on_1) (items := zipI (L.map fun p => V.ref p.1).dropLast ((L.map fun p => V.ref p.1).drop 1))
    (fun i σ S' => σ = [some (.ref q), some (.ref c), some (.ref l), some (.ref u), some (.ref S.length), none, none] ∧ Up [S.length] S3 S' ∧ S'[S.length]? = some (.lst (((List.range i).map fun k => room (rowsOf P) (rowsOf PL) (rowsOf PU) (fnd (L.map Prod.snd) k) (fnd (L.map Prod.snd) (k + 1))).map V.int)))
    (fun i σ S' hI => chkZ_of (rdL_lst (hI.2.1.get1 k3 (by omega))) (rdL_lst (hI.2.1.get1 k4 (by omega)))) (fun i it σ S' hit hI => by
      obtain ⟨rfl, u', h'⟩ := hI
      obtain ⟨hi, a, b, ha, hb, rfl⟩ := zip_at hit
      rw [List.length_map] at hi
      rw [List.getElem?_map] at ha hb
      obtain ⟨pa, hpa, rfl⟩ := Option.map_eq_some_iff.mp ha
      obtain ⟨pb, hpb, rfl⟩ := Option.map_eq_some_iff.mp hb
      refine ⟨_, gIT2 _ _ _ _ _ _, ?_⟩
      have U : Up [] S S' := u3.new' u' (by simp)
      have na : NdF S' pa.1 (fnd (L.map Prod.snd) i) := by
        have := fnd_at (p := L.map Prod.snd) (k := i) (by rw [List.length_map]; omega)
        rw [List.getElem?_map, hpa] at this
        rw [← Option.some.inj this]
        exact (hL.2 _ (List.mem_of_getElem? hpa)).up U
      have nb : NdF S' pb.1 (fnd (L.map Prod.snd) (i + 1)) := by
        have := fnd_at (p := L.map Prod.snd) (k := i + 1) (by rw [List.length_map]; omega)
        rw [List.getElem?_map, hpb] at this
        rw [← Option.some.inj this]
        exact (hL.2 _ (List.mem_of_getElem? hpb)).up U
      have hn := W.st i (by rw [List.length_map]; omega)
      have hlen : (((List.range i).map fun k => room (rowsOf P) (rowsOf PL) (rowsOf PU) (fnd (L.map Prod.snd) k) (fnd (L.map Prod.snd) (k + 1))).map V.int).length < 16777216 := by rw [List.length_map, List.length_map, List.length_range]; omega
      have fin : ∀ v : Int, v = room (rowsOf P) (rowsOf PL) (rowsOf PU) (fnd (L.map Prod.snd) i) (fnd (L.map Prod.snd) (i + 1)) → ∃ S5, appM (.ref S.length) [.int v] S' = .ok .non S5 ∧ Up [S.length] S3 S5 ∧ S5[S.length]? = some (.lst (((List.range (i + 1)).map fun k => room (rowsOf P) (rowsOf PL) (rowsOf PU) (fnd (L.map Prod.snd) k) (fnd (L.map Prod.snd) (k + 1))).map V.int)) := fun v hv => by
        refine ⟨_, appM_at h' hlen, u'.trans (Up.set (List.mem_singleton.mpr rfl) _), ?_⟩
        rw [sset_same h', List.range_succ, List.map_append, List.map_append, hv]; rfl
      rcases hn with ⟨a1, b1, a2, b2, _⟩ | ⟨a1, b1, a2, b2, _⟩
      · obtain ⟨n1, x1, x2⟩ := rdc (i := (fnd (L.map Prod.snd) i).2) (j := (fnd (L.map Prod.snd) (i + 1)).2) (tu.up U) hRU (by omega) b2
        obtain ⟨n2, y1, y2⟩ := rdc (i := (fnd (L.map Prod.snd) i).2) (j := (fnd (L.map Prod.snd) (i + 1)).2) (t.up U) hR (by omega) b2
        obtain ⟨S5, e5, u5, h5⟩ := fin (cl (rowsOf PU) (fnd (L.map Prod.snd) i).2 (fnd (L.map Prod.snd) (i + 1)).2 - cl (rowsOf P) (fnd (L.map Prod.snd) i).2 (fnd (L.map Prod.snd) (i + 1)).2) (by unfold room; rw [if_pos a1])
        have ee : ((fnd (L.map Prod.snd) i).1 : Int) = 0 := by omega
        simp (decide := true) only [ev, ex9, exA, exB, exD, decide_true, decide_false, Bool.not_true, Bool.not_false, not_true, not_false_iff, eq_self, List.length_map, if_true, if_false, Bool.false_eq_true, b_rooms_on_1, na.i0, na.i1, nb.i1, ee, x1, x2, y1, y2, isLs_of (rdL_lst h'), e5, Tn_nx]
        exact ⟨trivial, u5, h5⟩
      · obtain ⟨n1, x1, x2⟩ := rdc (i := (fnd (L.map Prod.snd) (i + 1)).2) (j := (fnd (L.map Prod.snd) i).2) (tl.up U) hRL (by omega) a2
        obtain ⟨n2, y1, y2⟩ := rdc (i := (fnd (L.map Prod.snd) (i + 1)).2) (j := (fnd (L.map Prod.snd) i).2) (t.up U) hR (by omega) a2
        obtain ⟨S5, e5, u5, h5⟩ := fin (cl (rowsOf P) (fnd (L.map Prod.snd) (i + 1)).2 (fnd (L.map Prod.snd) i).2 - cl (rowsOf PL) (fnd (L.map Prod.snd) (i + 1)).2 (fnd (L.map Prod.snd) i).2) (by unfold room; rw [if_neg (by omega)])
        have ee : ¬ ((fnd (L.map Prod.snd) i).1 : Int) = 0 := by omega
        simp (decide := true) only [ev, ex9, exA, exB, exD, decide_true, decide_false, Bool.not_true, Bool.not_false, not_true, not_false_iff, eq_self, List.length_map, if_true, if_false, Bool.false_eq_true, b_rooms_on_1, na.i0, na.i1, nb.i1, ee, x1, x2, y1, y2, isLs_of (rdL_lst h'), e5, Tn_nx]
        exact ⟨trivial, u5, h5⟩) (σ := [some (.ref q), some (.ref c), some (.ref l), some (.ref u), some (.ref S.length), none, none]) (S := S3) ⟨rfl, Up.refl _ _, q3⟩
  rw [e4]
  simp (decide := true) only [ev, ex9, exA, exB, exD, decide_true, decide_false, Bool.not_true, Bool.not_false, not_true, not_false_iff, eq_self, List.length_map, if_true, if_false, Bool.false_eq_true]
  rw [zip_len, List.length_map] at h4
  exact ⟨S4, S.length, rfl, u3.new' u4 (by simp), Nat.le_refl _, h4⟩
theorem pushed_along_spec {S : Sto} {q c h w : Nat} {L : List (Nat × FN)} {P : Rws} {T lo hi : List (List Int)} {r : Int} (hL : LN S q L) (t : Tb S c P) (nod : (P.map Prod.fst).Nodup) (hR : Rect w (rowsOf P)) (hl : P.length = h) (hq : q ∉ P.map Prod.fst)
    (W : Way T lo hi h w (L.map Prod.snd)) :
    ∃ (S' : Sto) (Q : Rws), r_pushed_along [.ref q, .ref c, .int r] S = .ok .non S' ∧ Up (P.map Prod.fst) S S' ∧ Tb S' c Q ∧ Q.map Prod.fst = P.map Prod.fst ∧ Rect w (rowsOf Q) ∧ ∀ i j, i < h → j < w → cl (rowsOf Q) i j = cl (rowsOf P) i j + r * fDl (L.map Prod.snd) (L.length - 1) i j := by
  have nt : NoTu (P.map Prod.fst) S := fun m hm xs e => by
    obtain ⟨p, hp, rfl⟩ := List.mem_map.mp hm
    rw [t.row p hp] at e; cases e
  have u2 := Up.app [] S [.lst (L.map fun p => V.ref p.1).dropLast]
  have hL2 := hL.up u2
  simp (decide := true) only [ev, ex9, exA, exB, exD, decide_true, decide_false, Bool.not_true, Bool.not_false, not_true, not_false_iff, eq_self, List.length_map, if_true, if_false, Bool.false_eq_true, r_pushed_along_eq, c_pushed_along, cutM_init (rdL_lst hL.1), cutM_drop (k := 1) (by decide) (rdL_lst hL2.1)]
  have k2 := snew S (.lst (L.map fun p => V.ref p.1).dropLast)
  have k3 := (Up.app [] (S ++ [.lst (L.map fun p => V.ref p.1).dropLast]) [.lst ((L.map fun p => V.ref p.1).drop (Int.toNat 1))]).get k2
  have k4 := snew (S ++ [.lst (L.map fun p => V.ref p.1).dropLast]) (.lst ((L.map fun p => V.ref p.1).drop (Int.toNat 1)))
  have u3 := u2.trans (Up.app [] _ [.lst ((L.map fun p => V.ref p.1).drop (Int.toNat 1))])
  have lz2 : S.length < (S ++ [Ob.lst (L.map fun p => V.ref p.1).dropLast]).length := slt k2
  simp (decide := true) only [ev, ex9, exA, exB, exD, decide_true, decide_false, Bool.not_true, Bool.not_false, not_true, not_false_iff, eq_self, List.length_map, if_true, if_false, Bool.false_eq_true, rdL_lst k3, rdL_lst k4]
  generalize (S ++ [Ob.lst (L.map fun p => V.ref p.1).dropLast]) = S2 at k3 k4 u3 lz2 ⊢
  generalize S2 ++ [Ob.lst ((L.map fun p => V.ref p.1).drop (Int.toNat 1))] = S3 at k3 k4 u3 ⊢
  rw [show Int.toNat 1 = 1 from rfl] at k4 ⊢
  have nl : ∀ {n : Nat}, S.length ≤ n → n ∉ P.map Prod.fst := fun {n} hn hm => by
    obtain ⟨p, hp, rfl⟩ := List.mem_map.mp hm
    have := t.ltr hp
    omega
  obtain ⟨σ4, S4, e4, rfl, u4, Q, hN, hRQ, tQ, hcl⟩ := forM_inv (chk := chkZ (.ref S.length) (.ref S2.length) (L.map fun p => V.ref p.1).dropLast ((L.map fun p => V.ref p.1).drop 1)) (tg := gIT [3, 4]) (ws := [3, 4]) (body := b_pushed_along_1) (items := zipI (L.map fun p => V.ref p.1).dropLast ((L.map fun p => V.ref p.1).drop 1))
    (fun i σ S' => σ = [some (.ref q), some (.ref c), some (.int r), none, none] ∧ Up (P.map Prod.fst) S3 S' ∧ ∃ Q : Rws, Q.map Prod.fst = P.map Prod.fst ∧ Rect w (rowsOf Q) ∧ Tb S' c Q ∧ ∀ x y, x < h → y < w → cl (rowsOf Q) x y = cl (rowsOf P) x y + r * fDl (L.map Prod.snd) i x y)
    (fun i σ S' hI => chkZ_of (rdL_lst (hI.2.1.at' _ _ (nl (Nat.le_refl _)) k3)) (rdL_lst (hI.2.1.at' _ _ (nl (by omega)) k4))) (fun i it σ S' hit hI => by
      obtain ⟨rfl, u', Q, hN, hRQ, tQ, hcl⟩ := hI
      obtain ⟨hi, a, b, ha, hb, rfl⟩ := zip_at hit
      rw [List.length_map] at hi
      rw [List.getElem?_map] at ha hb
      obtain ⟨pa, hpa, rfl⟩ := Option.map_eq_some_iff.mp ha
      obtain ⟨pb, hpb, rfl⟩ := Option.map_eq_some_iff.mp hb
      refine ⟨_, gIT2 _ _ _ _ _ _, ?_⟩
      have U : Up (P.map Prod.fst) S S' := u3.any.trans u'
      have na : NdF S' pa.1 (fnd (L.map Prod.snd) i) := by
        have := fnd_at (p := L.map Prod.snd) (k := i) (by rw [List.length_map]; omega)
        rw [List.getElem?_map, hpa] at this
        rw [← Option.some.inj this]
        exact (hL.2 _ (List.mem_of_getElem? hpa)).upM U nt
      have nb : NdF S' pb.1 (fnd (L.map Prod.snd) (i + 1)) := by
        have := fnd_at (p := L.map Prod.snd) (k := i + 1) (by rw [List.length_map]; omega)
        rw [List.getElem?_map, hpb] at this
        rw [← Option.some.inj this]
        exact (hL.2 _ (List.mem_of_getElem? hpb)).upM U nt
      have hn := W.st i (by rw [List.length_map]; omega)
      have hQl : Q.length = h := by rw [← hl, ← List.length_map (f := Prod.fst) (as := Q), hN, List.length_map]
      have hrl : (rowsOf Q).length = h := by rw [rowsOf, List.length_map, hQl]
      have fin : ∀ (ci cj : Nat) (s : Int), ci < h → cj < w → (∀ x y, fdel (fnd (L.map Prod.snd) i) (fnd (L.map Prod.snd) (i + 1)) x y = if (ci, cj) = (x, y) then s else 0) → ∃ nm : Nat, ixQ (.ref c) (.int (ci : Int)) S' = .ok (.ref nm) S' ∧ getL (.ref nm) (.int (cj : Int)) S' = .ok (.int (cl (rowsOf Q) ci cj)) S' ∧ ∀ v : Int, v = cl (rowsOf Q) ci cj + r * s → ∃ S5, setL (.ref nm) (.int (cj : Int)) (.int v) S' = .ok () S5 ∧ Up (P.map Prod.fst) S3 S5 ∧ ∃ Q : Rws, Q.map Prod.fst = P.map Prod.fst ∧ Rect w (rowsOf Q) ∧ Tb S5 c Q ∧ ∀ x y, x < h → y < w → cl (rowsOf Q) x y = cl (rowsOf P) x y + r * fDl (L.map Prod.snd) (i + 1) x y := fun ci cj s hci hcj hd => by
        obtain ⟨nm, _, y1, y2, y3, y4⟩ := cell_at (i := (ci : Int)) (j := (cj : Int)) tQ (by rw [hN]; exact nod) hRQ (by omega) (by omega) (by omega) (by omega)
        rw [Int.toNat_natCast, Int.toNat_natCast] at y3
        refine ⟨nm, y1, y3, fun v hv => ?_⟩
        obtain ⟨S5, Q5, e5, u5, t5, n5, r5⟩ := y4 v
        rw [Int.toNat_natCast, Int.toNat_natCast] at r5
        rw [hN] at u5 n5
        refine ⟨S5, e5, u'.trans u5, Q5, n5, by rw [r5]; exact setc_rect hRQ (by omega) _ _, t5, fun x y hx hy => ?_⟩
        rw [r5, cl_setc hRQ (by omega) hcj, fDl_succ, Int.mul_add, hd]
        by_cases e : (ci, cj) = (x, y)
        · injection e with e1 e2
          subst e1; subst e2
          rw [if_pos ⟨rfl, rfl⟩, if_pos rfl, hv, hcl ci cj hx hy]; omega
        · rw [if_neg (fun z => e (by rw [z.1, z.2])), if_neg e, hcl x y hx hy]; omega
      generalize fnd (L.map Prod.snd) i = xa at na hn fin
      generalize fnd (L.map Prod.snd) (i + 1) = xb at nb hn fin
      obtain ⟨xa1, xa2⟩ := xa
      obtain ⟨xb1, xb2⟩ := xb
      rcases hn with ⟨a1, b1, a2, b2, _⟩ | ⟨a1, b1, a2, b2, _⟩
      · have a1 : xa1 = 0 := a1
        have b1 : xb1 = 1 := b1
        subst a1; subst b1
        obtain ⟨nm, z1, z2, z3⟩ := fin xa2 xb2 1 a2 b2 (fun x y => by
          unfold fdel
          by_cases e : (xa2, xb2) = (x, y)
          · injection e with e1 e2
            subst e1; subst e2
            rw [if_pos ⟨rfl, rfl⟩, if_pos rfl]
          · rw [if_neg (fun z => e (by injection z.1 with _ z1; injection z.2 with _ z2; rw [z1, z2])), if_neg (fun z => by injection z.1; omega), if_neg e])
        obtain ⟨S5, e5, h5⟩ := z3 (cl (rowsOf Q) xa2 xb2 + r) (by omega)
        have ee : eqM (.int ((0 : Nat) : Int)) (.int 0) S' = .ok (.bl true) S' := by rw [eqM_int]; rfl
        simp (decide := true) only [ev, ex9, exA, exB, exD, decide_true, decide_false, Bool.not_true, Bool.not_false, not_true, not_false_iff, eq_self, List.length_map, if_true, if_false, Bool.false_eq_true, b_pushed_along_1, na.i0, na.i1, nb.i1, ee, z1, z2, e5, Tn_nx]
        exact ⟨trivial, h5⟩
      · have a1 : xa1 = 1 := a1
        have b1 : xb1 = 0 := b1
        subst a1; subst b1
        obtain ⟨nm, z1, z2, z3⟩ := fin xb2 xa2 (-1) b2 a2 (fun x y => by
          unfold fdel
          rw [if_neg (fun z => by injection z.1; omega)]
          by_cases e : (xb2, xa2) = (x, y)
          · injection e with e1 e2
            subst e1; subst e2
            rw [if_pos ⟨rfl, rfl⟩, if_pos rfl]
          · rw [if_neg (fun z => e (by injection z.1 with _ z1; injection z.2 with _ z2; rw [z1, z2])), if_neg e])
        obtain ⟨S5, e5, h5⟩ := z3 (cl (rowsOf Q) xb2 xa2 - r) (by omega)
        have ee : eqM (.int ((1 : Nat) : Int)) (.int 0) S' = .ok (.bl false) S' := by rw [eqM_int]; rfl
        simp (decide := true) only [ev, ex9, exA, exB, exD, decide_true, decide_false, Bool.not_true, Bool.not_false, not_true, not_false_iff, eq_self, List.length_map, if_true, if_false, Bool.false_eq_true, b_pushed_along_1, na.i0, na.i1, nb.i1, ee, z1, z2, e5, Tn_nx]
        exact ⟨trivial, h5⟩) (σ := [some (.ref q), some (.ref c), some (.int r), none, none]) (S := S3) ⟨rfl, Up.refl _ _, P, rfl, hR, t.up u3, fun x y _ _ => by show _ = _ + r * 0; omega⟩
  rw [e4]
  simp (decide := true) only [ev, ex9, exA, exB, exD, decide_true, decide_false, Bool.not_true, Bool.not_false, not_true, not_false_iff, eq_self, List.length_map, if_true, if_false, Bool.false_eq_true]
  rw [zip_len, List.length_map] at hcl
  exact ⟨S4, Q, rfl, u3.any.trans u4, tQ, hN, hRQ, hcl⟩

/-! cut_of, cut_below -/
theorem compM_key {chk : Sto → Bool} {p : St → Sto → R Bool} {e : St → Sto → R V} {σ : St} {S0 : Sto} {i : Nat} (hc : ∀ S, Up [] S0 S → chk S = true) (f : FN → Bool) (v : FN → V)
    (he : ∀ (x : FN) (S : Sto) (m : Nat), NdF S m x → p (σ.set i (some (.ref m))) S = .ok (f x) S ∧ e (σ.set i (some (.ref m))) S = .ok (v x) S) : ∀ (ks : List FN) (S : Sto), Up [] S0 S → ∃ S', compM chk (gI1 i) p e (ks.map fun x => .key (tkI (fkI x))) σ S = .ok ((ks.filter f).map v) S' ∧ Up [] S S'
  | [], S, h0 => ⟨S, by simp [compM, hc S h0], Up.refl _ S⟩
  | x :: ks, S, h0 => by
    have u := Up.app [] S [.tup [.int (x.1 : Int), .int (x.2 : Int)]]
    obtain ⟨S2, e2, u2⟩ := compM_key hc f v he ks (S ++ [.tup [.int (x.1 : Int), .int (x.2 : Int)]]) (h0.trans u)
    have hn : NdF (S ++ [Ob.tup [V.int (x.1 : Int), V.int (x.2 : Int)]]) S.length x := snew _ _
    obtain ⟨h1, h2⟩ := he x _ _ hn
    have g1 : gI1 i (.key (tkI (fkI x))) σ S = .ok (σ.set i (some (.ref S.length))) (S ++ [Ob.tup [V.int (x.1 : Int), V.int (x.2 : Int)]]) := by
      show (if (tkI (fkI x)).length ≤ 16777216 then (R.ok (σ.set i (some (.ref S.length))) (S ++ [Ob.tup ((tkI (fkI x)).map kV)]) : R St) else R.bad) = _
      rw [if_pos (show (tkI (fkI x)).length ≤ 16777216 from (by decide : 2 ≤ 16777216))]; rfl
    refine ⟨S2, ?_, u.trans u2⟩
    rw [List.map_cons, compM, if_pos (hc S h0), g1]
    simp only [R.nox_ok, R.bind_ok, h1]
    cases hf : f x with
    | true =>
      simp only [if_true, h2, R.nox_ok, R.bind_ok, e2]
      rw [List.filter_cons, if_pos hf, List.map_cons]
    | false =>
      simp only [Bool.false_eq_true, if_false, e2]
      rw [List.filter_cons, if_neg (by simp [hf])]
theorem compK_at {S : Sto} {cm : Nat} {g : FN → Option (Option FN)} {ks : List FN} {p : St → Sto → R Bool} {e : St → Sto → R V} {a1 a2 : Option V} (hC : CT S cm g ks) (f : FN → Bool)
    (he : ∀ (x : FN) (S : Sto) (m : Nat), NdF S m x → p [some (.ref cm), a1, some (.ref m)] S = .ok (f x) S ∧ e [some (.ref cm), a1, some (.ref m)] S = .ok (.int (x.2 : Int)) S) :
    ∃ (S' : Sto) (q : Nat), eCompK 0 (gI1 2) p e [2] [some (.ref cm), a1, a2] S = .ok (.ref q) S' ∧ Up [] S S' ∧ S.length ≤ q ∧ S'[q]? = some (.lst ((((ks.filter f).map (·.2)).map fun (k : Nat) => (k : Int)).map V.int)) := by
  obtain ⟨⟨kvs, ek, l, _⟩, _⟩ := hC
  have e1 : (S.set cm (.fD kvs))[cm]? = some (.fD kvs) := sset_same ek
  have items : (kvs.map fun p => Itm.key p.1) = ks.map fun x => Itm.key (tkI (fkI x)) := by
    have := congrArg (List.map Itm.key) l
    rw [List.map_map, List.map_map, List.map_map] at this
    exact this
  obtain ⟨S2, e2, u2⟩ := compM_key (S0 := S.set cm (.fD kvs)) (chk := fun S => S[cm]? == some (.fD kvs)) (i := 2) (σ := [some (.ref cm), a1, none]) (p := p) (e := e) (fun S' u => by rw [u.get e1]; simp) f (fun x => .int (x.2 : Int)) he ks (S.set cm (.fD kvs)) (Up.refl _ _)
  have e3 : eComp (iKy 0) (gI1 2) p e [2] [some (.ref cm), a1, a2] (S.set cm (.fD kvs)) = .ok (.ref S2.length) (S2 ++ [.lst ((ks.filter f).map fun x => .int (x.2 : Int))]) := by
    unfold eComp iKy
    dsimp only [List.getElem?_cons_zero]
    rw [e1]
    show (compM _ _ p e _ [some (.ref cm), a1, none] _).bind _ = _
    rw [items, e2]; rfl
  have hcm := slt ek
  have l2 := u2.len
  rw [List.length_set] at l2
  have k2 : (S2 ++ [Ob.lst ((ks.filter f).map fun x => V.int (x.2 : Int))])[cm]? = some (.fD kvs) := (Up.app [] _ _).get (u2.get e1)
  refine ⟨(S2 ++ [Ob.lst ((ks.filter f).map fun x => V.int (x.2 : Int))]).set cm (.dT kvs), S2.length, ?_, ⟨by rw [List.length_set, List.length_append]; omega, fun a o _ ha => ?_⟩, l2, ?_⟩
  · unfold eCompK
    dsimp only [List.getElem?_cons_zero]
    rw [ek]
    dsimp only
    rw [e3]
    show unlk cm kvs (.ref S2.length) _ = _
    unfold unlk
    rw [if_pos k2]
  · by_cases e : a = cm
    · subst e
      rw [ek] at ha
      rw [sset_same k2]; exact ha
    · rw [sset_ne e]
      exact (Up.app [] _ _).get (u2.get (by rw [sset_ne e]; exact ha))
  · rw [sset_ne (by omega), snew, List.map_map, List.map_map]; rfl
structure Btw (S : Sto) (n0 c : Nat) (Q : Rws) (Rf Cf : Nat → Int) (lo hi : List (List Int)) (h w : Nat) : Prop where
  tb : Tb S c Q
  nod : (Q.map Prod.fst).Nodup
  new : ∀ p ∈ Q, n0 ≤ p.1
  newc : n0 ≤ c
  len : Q.length = h
  rect : Rect w (rowsOf Q)
  bd : ∀ i j, i < h → j < w → cl lo i j ≤ cl (rowsOf Q) i j ∧ cl (rowsOf Q) i j ≤ cl hi i j
  rs : ∀ i, i < h → sumR w (fun j => cl (rowsOf Q) i j) = Rf i
  cs : ∀ j, j < w → sumR h (fun i => cl (rowsOf Q) i j) = Cf j
structure CutI (A B : List Nat) (Rf Cf : Nat → Int) (lo hi : List (List Int)) (h w : Nat) : Prop where
  upA : A.Pairwise (· < ·)
  upB : B.Pairwise (· < ·)
  ltA : ∀ i ∈ A, i < h
  ltB : ∀ j ∈ B, j < w
  ok : CutOk Rf Cf lo hi h w (fun i => decide (i ∈ A)) (fun j => decide (j ∈ B))
def CutS (S : Sto) (n0 tp na nb : Nat) (A B : List Nat) : Prop := S[tp]? = some (.tup [.str (PySem.Str.ofString "cut"), .ref na, .ref nb]) ∧ S[na]? = some (.lst (A.map fun (k : Nat) => V.int k)) ∧ S[nb]? = some (.lst (B.map fun (k : Nat) => V.int k)) ∧ n0 ≤ na ∧ na < nb
theorem CutS.up {S S' : Sto} {n0 tp na nb : Nat} {A B : List Nat} (h : CutS S n0 tp na nb A B) (u : Up [] S S') : CutS S' n0 tp na nb A B := ⟨u.get h.1, u.get h.2.1, u.get h.2.2.1, h.2.2.2.1, h.2.2.2.2⟩
theorem cut_of_spec {S : Sto} {cm h w : Nat} {T lo hi : List (List Int)} {rs : List Int} {g : FN → Option (Option FN)} {ks : List FN} (hC : CT S cm g ks) (r : Rch T lo hi h w rs g ks) :
    ∃ (S' : Sto) (tp na nb : Nat) (A B : List Nat), r_cut_of [.ref cm] S = .ok (.ref tp) S' ∧ Up [] S S' ∧ CutS S' S.length tp na nb A B ∧ A.Pairwise (· < ·) ∧ B.Pairwise (· < ·) ∧ (∀ i, i ∈ A ↔ (0, i) ∈ ks) ∧ ∀ j, j ∈ B ↔ (1, j) ∈ ks := by
  have fl : ∀ s : Nat, ((ks.filter fun x => decide (x.1 = s)).map (·.2)).Nodup ∧ ∀ i, i ∈ (ks.filter fun x => decide (x.1 = s)).map (·.2) ↔ (s, i) ∈ ks := fun s => by
    refine ⟨?_, fun i => ?_⟩
    · rw [List.Nodup, List.pairwise_map]
      have n2 : (ks.filter fun x => decide (x.1 = s)).Nodup := r.nod.sublist List.filter_sublist
      refine List.Pairwise.imp_of_mem (fun {a b} ha hb hne e => hne ?_) n2
      have ha := of_decide_eq_true (List.mem_filter.mp ha).2
      have hb := of_decide_eq_true (List.mem_filter.mp hb).2
      exact Prod.ext (by rw [ha, hb]) e
    · rw [List.mem_map]
      constructor
      · rintro ⟨x, hx, rfl⟩
        obtain ⟨h1, h2⟩ := List.mem_filter.mp hx
        have h2 := of_decide_eq_true h2
        rw [← h2]; exact h1
      · intro h
        exact ⟨(s, i), List.mem_filter.mpr ⟨h, by simp⟩, rfl⟩
  obtain ⟨S1, q1, e1, u1, l1, h1⟩ := compK_at (a1 := none) (a2 := none) (p := p_cut_of_1) (e := e_cut_of_1) hC (fun x => decide (x.1 = 0)) (fun x S m hm => by
    have : decide ((x.1 : Int) = 0) = decide (x.1 = 0) := by simp
    exact ⟨by simp (decide := true) only [ev, ex9, exA, exB, exD, decide_true, decide_false, Bool.not_true, Bool.not_false, not_true, not_false_iff, eq_self, List.length_map, if_true, if_false, Bool.false_eq_true, p_cut_of_1, hm.i0, this], by simp (decide := true) only [ev, ex9, exA, exB, exD, decide_true, decide_false, Bool.not_true, Bool.not_false, not_true, not_false_iff, eq_self, List.length_map, if_true, if_false, Bool.false_eq_true, e_cut_of_1, hm.i1]⟩)
  obtain ⟨A, eA, pA, uA⟩ := sorted_nat (fl 0).1
  simp (decide := true) only [ev, ex9, exA, exB, exD, decide_true, decide_false, Bool.not_true, Bool.not_false, not_true, not_false_iff, eq_self, List.length_map, if_true, if_false, Bool.false_eq_true, r_cut_of_eq, c_cut_of, e1, sortM_at (rdL_lst h1)]
  rw [eA]
  have u2 := Up.app [] S1 [.lst ((A.map fun (k : Nat) => (k : Int)).map V.int)]
  have h2 := snew S1 (.lst ((A.map fun (k : Nat) => (k : Int)).map V.int))
  have hC2 := (hC.up u1).up u2
  have l2 := slt h2
  have hS1 := u1.len
  generalize S1 ++ [Ob.lst ((A.map fun (k : Nat) => (k : Int)).map V.int)] = S2 at u2 h2 hC2 l2 ⊢
  obtain ⟨S3, q3, e3, u3, l3, h3⟩ := compK_at (a1 := some (.ref S1.length)) (a2 := none) (p := p_cut_of_2) (e := e_cut_of_2) hC2 (fun x => decide (x.1 = 1)) (fun x S m hm => by
    have : decide ((x.1 : Int) = 1) = decide (x.1 = 1) := by
      by_cases e : x.1 = 1
      · rw [e]; rfl
      · rw [decide_eq_false e, decide_eq_false (by omega)]
    exact ⟨by simp (decide := true) only [ev, ex9, exA, exB, exD, decide_true, decide_false, Bool.not_true, Bool.not_false, not_true, not_false_iff, eq_self, List.length_map, if_true, if_false, Bool.false_eq_true, p_cut_of_2, hm.i0, this], by simp (decide := true) only [ev, ex9, exA, exB, exD, decide_true, decide_false, Bool.not_true, Bool.not_false, not_true, not_false_iff, eq_self, List.length_map, if_true, if_false, Bool.false_eq_true, e_cut_of_2, hm.i1]⟩)
  obtain ⟨B, eB, pB, uB⟩ := sorted_nat (fl 1).1
  simp (decide := true) only [ev, ex9, exA, exB, exD, decide_true, decide_false, Bool.not_true, Bool.not_false, not_true, not_false_iff, eq_self, List.length_map, if_true, if_false, Bool.false_eq_true, e3, sortM_at (rdL_lst h3)]
  rw [eB]
  have u4 := Up.app [] S3 [.lst ((B.map fun (k : Nat) => (k : Int)).map V.int)]
  have h4 := snew S3 (.lst ((B.map fun (k : Nat) => (k : Int)).map V.int))
  have h2' := u4.get (u3.get h2)
  have l4 := u3.len
  generalize S3 ++ [Ob.lst ((B.map fun (k : Nat) => (k : Int)).map V.int)] = S4 at u4 h4 h2' ⊢
  have u5 := Up.app [] S4 [.tup [.str (PySem.Str.ofString "cut"), .ref S1.length, .ref S3.length]]
  rw [List.map_map] at h2' h4
  exact ⟨_, _, S1.length, S3.length, A, B, rfl, (((u1.trans u2).trans u3).trans u4).trans u5, ⟨snew _ _, u5.get h2', u5.get h4, hS1, by omega⟩, uA, uB, fun i => by rw [pA.mem_iff]; exact (fl 0).2 i, fun j => by rw [pB.mem_iff]; exact (fl 1).2 j⟩
theorem sumR_pick {n k : Nat} (f : Nat → Int) (hk : k < n) : sumR n (fun i => if i = k then f i else 0) = f k := by
  rw [sumR_only k hk (fun i _ hi => if_neg hi), if_pos rfl]
theorem cut_row {Rf Cf : Nat → Int} {lo hi : List (List Int)} {h w k : Nat} {a b : Nat → Bool} (hs : sumR h Rf = sumR w Cf) (hk : k < h) (hlt : Rf k < sumR w fun j => cl lo k j) (ha : ∀ i, i < h → a i = decide (i ≠ k)) (hb : ∀ j, j < w → b j = true) : CutOk Rf Cf lo hi h w a b := by
  unfold CutOk
  have e1 : sumR w (fun j => bz (b j) (Cf j)) = sumR w Cf := sumR_congr fun j hj => by rw [hb j hj]; rfl
  have e2 : sumR h (fun i => sumR w fun j => bz (a i && !b j) (cl hi i j) - bz (!a i && b j) (cl lo i j)) = - sumR w fun j => cl lo k j := by
    rw [sumR_only k hk (fun i hi hik => sumR_zero fun j hj => by rw [ha i hi, hb j hj]; simp [bz, hik])]
    rw [sumR_congr (g := fun j => (-1) * (fun j => cl lo k j) j) (fun j hj => by rw [ha k hk, hb j hj]; simp [bz]), sumR_mul]; omega
  have e3 : sumR h (fun i => bz (a i) (Rf i)) = sumR h Rf - Rf k := by
    rw [← sumR_pick Rf hk, ← sumR_sub]
    exact sumR_congr fun i hi => by
      rw [ha i hi]
      by_cases e : i = k <;> simp [bz, e]
  rw [e1, e2, e3]
  omega
theorem cut_col {Rf Cf : Nat → Int} {lo hi : List (List Int)} {h w k : Nat} {a b : Nat → Bool} (hk : k < w) (hlt : Cf k < sumR h fun i => cl lo i k) (ha : ∀ i, i < h → a i = false) (hb : ∀ j, j < w → b j = decide (j = k)) : CutOk Rf Cf lo hi h w a b := by
  unfold CutOk
  have e1 : sumR w (fun j => bz (b j) (Cf j)) = Cf k := by
    rw [← sumR_pick Cf hk]
    exact sumR_congr fun j hj => by rw [hb j hj]; by_cases e : j = k <;> simp [bz, e]
  have e2 : sumR h (fun i => sumR w fun j => bz (a i && !b j) (cl hi i j) - bz (!a i && b j) (cl lo i j)) = - sumR h fun i => cl lo i k := by
    rw [sumR_congr (g := fun i => (-1) * cl lo i k) (fun i hi => by
      rw [sumR_only k hk (fun j hj hjk => by rw [ha i hi, hb j hj]; simp [bz, hjk]), ha i hi, hb k hk]; simp [bz]), sumR_mul]; omega
  have e3 : sumR h (fun i => bz (a i) (Rf i)) = 0 := sumR_zero fun i hi => by rw [ha i hi]; rfl
  rw [e1, e2, e3]
  omega
theorem cut_below_spec {S : Sto} {rn wn h w : Nat} {rs ws : List Int} {Rf Cf : Nat → Int} {lo hi : List (List Int)} (hrs : S[rn]? = some (.lst (rs.map V.int))) (hws : S[wn]? = some (.lst (ws.map V.int))) (rl : rs.length = h) (wl : ws.length = w) (h8 : h ≤ 1000) (w8 : w ≤ 1000)
    (hs : sumR h Rf = sumR w Cf) (hRf : ∀ i, i < h → Rf i = rs.getD i 0 + sumR w fun j => cl lo i j) (hCf : ∀ j, j < w → Cf j = ws.getD j 0 + sumR h fun i => cl lo i j) :
    ∃ (S' : Sto) (v : V), r_cut_below [.ref rn, .ref wn] S = .ok v S' ∧ Up [] S S' ∧ ((v = .non ∧ (∀ i, i < h → 0 ≤ rs.getD i 0) ∧ ∀ j, j < w → 0 ≤ ws.getD j 0) ∨ ∃ (tp na nb : Nat) (A B : List Nat), v = .ref tp ∧ CutS S' S.length tp na nb A B ∧ CutI A B Rf Cf lo hi h w) := by
  have ir : ∀ i, i < h → ixQ (.ref rn) (.int (i : Int)) S = .ok (.int (rs.getD i 0)) S := fun i hi => ixQ_at (rdLT_lst hrs) (by rw [List.getElem?_map, List.getD_eq_getElem?_getD, List.getElem?_eq_getElem (by omega)]; rfl)
  have iw : ∀ j, j < w → ixQ (.ref wn) (.int (j : Int)) S = .ok (.int (ws.getD j 0)) S := fun i hi => ixQ_at (rdLT_lst hws) (by rw [List.getElem?_map, List.getD_eq_getElem?_getD, List.getElem?_eq_getElem (by omega)]; rfl)
  simp (decide := true) only [ev, ex9, exA, exB, exD, decide_true, decide_false, Bool.not_true, Bool.not_false, not_true, not_false_iff, eq_self, List.length_map, if_true, if_false, Bool.false_eq_true, r_cut_below_eq, c_cut_below, lenM_at (rdLT_lst hrs), rl]
  rw [rng1_ok (by omega), items_rng, Int.toNat_natCast]
  simp (decide := true) only [ev, ex9, exA, exB, exD, decide_true, decide_false, Bool.not_true, Bool.not_false, not_true, not_false_iff, eq_self, List.length_map, if_true, if_false, Bool.false_eq_true]
  let Z : V → Sto → Prop := fun v S' => Up [] S S' ∧ ∃ (tp na nb : Nat) (A B : List Nat), v = .ref tp ∧ CutS S' S.length tp na nb A B ∧ CutI A B Rf Cf lo hi h w
  rcases forM_ret (chk := chkY) (tg := gI1 2) (ws := [2]) (body := b_cut_below_1) (items := (List.range h).map (oneR 0)) (fun i σ S' => σ = [some (.ref rn), some (.ref wn), none, none] ∧ S = S' ∧ ∀ k, k < i → 0 ≤ rs.getD k 0) Z (fun _ _ _ _ => rfl) (fun i it σ S' hit hI => by
      obtain ⟨rfl, rfl, hI⟩ := hI
      rw [List.getElem?_map] at hit
      obtain ⟨z, hz, rfl⟩ := Option.map_eq_some_iff.mp hit
      obtain ⟨hi, rfl⟩ := rng_at hz
      have z0 : (0 : Int) + (i : Int) = (i : Int) := by omega
      refine ⟨_, gI1_one _ _ _ _, ?_⟩
      by_cases hp : rs.getD i 0 < 0
      · simp (decide := true) only [ev, ex9, exA, exB, exD, decide_true, decide_false, Bool.not_true, Bool.not_false, not_true, not_false_iff, eq_self, List.length_map, if_true, if_false, Bool.false_eq_true, b_cut_below_1, z0, ir i hi, hp, lenM_at (rdLT_lst hrs), rl]
        rw [rng1_ok (by omega), items_rng, Int.toNat_natCast]
        simp (decide := true) only [ev, ex9, exA, exB, exD, decide_true, decide_false, Bool.not_true, Bool.not_false, not_true, not_false_iff, eq_self, List.length_map, if_true, if_false, Bool.false_eq_true]
        rw [compM_flt (α := Nat) (oneR 0) (fun j => decide (j ≠ i)) (fun j => V.int (j : Int)) (by rfl) (fun j hj => ⟨_, gI1_one _ _ _ _, by
          have z1 : (0 : Int) + (j : Int) = (j : Int) := by omega
          have : (!decide ((j : Int) = (i : Int))) = decide (j ≠ i) := by
            by_cases e : j = i
            · subst e; simp
            · rw [decide_eq_true e, decide_eq_false (by omega)]; rfl
          simp (decide := true) only [ev, ex9, exA, exB, exD, decide_true, decide_false, Bool.not_true, Bool.not_false, not_true, not_false_iff, eq_self, List.length_map, if_true, if_false, Bool.false_eq_true, p_cut_below_1, z1, this], fun _ => by
          have z1 : (0 : Int) + (j : Int) = (j : Int) := by omega
          simp (decide := true) only [ev, ex9, exA, exB, exD, decide_true, decide_false, Bool.not_true, Bool.not_false, not_true, not_false_iff, eq_self, List.length_map, if_true, if_false, Bool.false_eq_true, z1]⟩)]
        have v1 := Up.app [] S [.lst (((List.range h).filter fun j => decide (j ≠ i)).map fun (j : Nat) => V.int (j : Int))]
        have k1 := snew S (.lst (((List.range h).filter fun j => decide (j ≠ i)).map fun (j : Nat) => V.int (j : Int)))
        simp (decide := true) only [ev, ex9, exA, exB, exD, decide_true, decide_false, Bool.not_true, Bool.not_false, not_true, not_false_iff, eq_self, List.length_map, if_true, if_false, Bool.false_eq_true, lenM_at (rdLT_lst (v1.get hws)), wl, lrM_at (lo := 0) (hi := (w : Int)) (by omega), rgV_0, Tr_rt]
        have v2 := Up.app [] (S ++ [.lst (((List.range h).filter fun j => decide (j ≠ i)).map fun (j : Nat) => V.int (j : Int))]) [.lst (((List.range w).map fun (i : Nat) => (i : Int)).map V.int)]
        have k2 := snew (S ++ [.lst (((List.range h).filter fun j => decide (j ≠ i)).map fun (j : Nat) => V.int (j : Int))]) (.lst (((List.range w).map fun (i : Nat) => (i : Int)).map V.int))
        have k1' := v2.get k1
        have l1 := slt k1
        generalize (S ++ [.lst (((List.range h).filter fun j => decide (j ≠ i)).map fun (j : Nat) => V.int (j : Int))]) = S1 at v1 v2 k2 k1' l1 ⊢
        generalize S1 ++ [Ob.lst (((List.range w).map fun (i : Nat) => (i : Int)).map V.int)] = S2 at v2 k2 k1' ⊢
        have v3 := Up.app [] S2 [.tup [.str (PySem.Str.ofString "cut"), .ref S.length, .ref S1.length]]
        rw [List.map_map] at k2
        refine ⟨(v1.trans v2).trans v3, _, S.length, S1.length, (List.range h).filter fun j => decide (j ≠ i), List.range w, rfl, ⟨snew _ _, v3.get k1', v3.get k2, Nat.le_refl _, l1⟩, ⟨List.pairwise_lt_range.sublist List.filter_sublist, List.pairwise_lt_range, fun j hj => List.mem_range.mp (List.mem_filter.mp hj).1, fun j hj => List.mem_range.mp hj, ?_⟩⟩
        refine cut_row hs hi (by rw [hRf i hi]; omega) (fun j hj => ?_) (fun j hj => by simp [hj])
        simp [List.mem_filter, hj]
      · simp (decide := true) only [ev, ex9, exA, exB, exD, decide_true, decide_false, Bool.not_true, Bool.not_false, not_true, not_false_iff, eq_self, List.length_map, if_true, if_false, Bool.false_eq_true, b_cut_below_1, z0, ir i hi, hp, Tr_nx]
        exact ⟨trivial, trivial, fun k hk => by
          by_cases e : k = i
          · subst e; omega
          · exact hI k (by omega)⟩) (σ := [some (.ref rn), some (.ref wn), none, none]) (S := S) ⟨rfl, rfl, fun k hk => by omega⟩ with ⟨σ', S', e, rfl, rfl, hI⟩ | ⟨v, S', e, hZ⟩
  · rw [List.length_map, List.length_range] at hI
    rw [e]
    simp (decide := true) only [ev, ex9, exA, exB, exD, decide_true, decide_false, Bool.not_true, Bool.not_false, not_true, not_false_iff, eq_self, List.length_map, if_true, if_false, Bool.false_eq_true, lenM_at (rdLT_lst hws), wl]
    rw [rng1_ok (by omega), items_rng, Int.toNat_natCast]
    simp (decide := true) only [ev, ex9, exA, exB, exD, decide_true, decide_false, Bool.not_true, Bool.not_false, not_true, not_false_iff, eq_self, List.length_map, if_true, if_false, Bool.false_eq_true]
    rcases forM_ret (chk := chkY) (tg := gI1 2) (ws := [2]) (body := b_cut_below_2) (items := (List.range w).map (oneR 0)) (fun i σ S' => σ = [some (.ref rn), some (.ref wn), none, none] ∧ S = S' ∧ ∀ k, k < i → 0 ≤ ws.getD k 0) Z (fun _ _ _ _ => rfl) (fun i it σ S' hit hI => by
      obtain ⟨rfl, rfl, hI⟩ := hI
      rw [List.getElem?_map] at hit
      obtain ⟨z, hz, rfl⟩ := Option.map_eq_some_iff.mp hit
      obtain ⟨hi, rfl⟩ := rng_at hz
      have z0 : (0 : Int) + (i : Int) = (i : Int) := by omega
      refine ⟨_, gI1_one _ _ _ _, ?_⟩
      by_cases hp : ws.getD i 0 < 0
      · simp (decide := true) only [ev, ex9, exA, exB, exD, decide_true, decide_false, Bool.not_true, Bool.not_false, not_true, not_false_iff, eq_self, List.length_map, if_true, if_false, Bool.false_eq_true, b_cut_below_2, z0, iw i hi, hp, Tr_rt]
        have v1 := Up.app [] S [.lst []]
        have k1 := snew S (.lst [])
        have v2 := Up.app [] (S ++ [.lst []]) [.lst [.int (i : Int)]]
        have k2 := snew (S ++ [.lst []]) (.lst [.int (i : Int)])
        have k1' := v2.get k1
        have l1 := slt k1
        generalize (S ++ [Ob.lst []]) = S1 at v1 v2 k2 k1' l1 ⊢
        generalize S1 ++ [Ob.lst [.int (i : Int)]] = S2 at v2 k2 k1' ⊢
        have v3 := Up.app [] S2 [.tup [.str (PySem.Str.ofString "cut"), .ref S.length, .ref S1.length]]
        refine ⟨(v1.trans v2).trans v3, _, S.length, S1.length, [], [i], rfl, ⟨snew _ _, v3.get k1', v3.get k2, Nat.le_refl _, l1⟩, ⟨List.Pairwise.nil, List.pairwise_singleton _ _, (fun _ h => nomatch h), fun j hj => by rw [List.mem_singleton.mp hj]; exact hi, ?_⟩⟩
        exact cut_col hi (by rw [hCf i hi]; omega) (fun j hj => by simp) (fun j hj => by simp)
      · simp (decide := true) only [ev, ex9, exA, exB, exD, decide_true, decide_false, Bool.not_true, Bool.not_false, not_true, not_false_iff, eq_self, List.length_map, if_true, if_false, Bool.false_eq_true, b_cut_below_2, z0, iw i hi, hp, Tr_nx]
        exact ⟨trivial, trivial, fun k hk => by
          by_cases e : k = i
          · subst e; omega
          · exact hI k (by omega)⟩) (σ := [some (.ref rn), some (.ref wn), none, none]) (S := S) ⟨rfl, rfl, fun k hk => by omega⟩ with ⟨σ', S', e, rfl, rfl, hI2⟩ | ⟨v, S', e, hZ⟩
    · rw [List.length_map, List.length_range] at hI2
      rw [e]
      simp (decide := true) only [ev, ex9, exA, exB, exD, decide_true, decide_false, Bool.not_true, Bool.not_false, not_true, not_false_iff, eq_self, List.length_map, if_true, if_false, Bool.false_eq_true]
      exact ⟨S, _, rfl, Up.refl _ _, .inl ⟨rfl, hI, hI2⟩⟩
    · rw [e]
      simp (decide := true) only [ev, ex9, exA, exB, exD, decide_true, decide_false, Bool.not_true, Bool.not_false, not_true, not_false_iff, eq_self, List.length_map, if_true, if_false, Bool.false_eq_true]
      exact ⟨S', v, rfl, hZ.1, .inr hZ.2⟩
  · rw [e]
    simp (decide := true) only [ev, ex9, exA, exB, exD, decide_true, decide_false, Bool.not_true, Bool.not_false, not_true, not_false_iff, eq_self, List.length_map, if_true, if_false, Bool.false_eq_true]
    exact ⟨S', v, rfl, hZ.1, .inr hZ.2⟩

/-! filled_up -/
theorem CT.len {S : Sto} {n : Nat} {g : FN → Option (Option FN)} {ks : List FN} (d : CT S n g ks) : lenDT [.ref n] S = .ok (.int ks.length) S := by
  obtain ⟨⟨kvs, e, l, _⟩, _⟩ := d
  have hl := congrArg List.length l
  rw [List.length_map, List.length_map, List.length_map] at hl
  simp only [lenDT, rdD_at e, hl]
theorem sumR_ge0 {n : Nat} {f : Nat → Int} (h : ∀ i, i < n → 0 ≤ f i) : 0 ≤ sumR n f := by
  have := sumR_le (f := fun _ => 0) (g := f) h
  rw [sumR_zero (f := fun _ => 0) (fun _ _ => rfl)] at this
  exact this
theorem sumR_all0 {n : Nat} {f : Nat → Int} (h : ∀ i, i < n → 0 ≤ f i) (hs : sumR n f ≤ 0) : ∀ i, i < n → f i = 0 := fun i hi => by
  by_cases e : f i = 0
  · exact e
  · have := sumR_lt (f := fun _ => 0) (g := f) h hi (by have := h i hi; omega)
    rw [sumR_zero (f := fun _ => 0) (fun _ _ => rfl)] at this
    omega
theorem getD_set {xs : List Int} {i j : Nat} {v : Int} (hi : i < xs.length) : (xs.set i v).getD j 0 = if j = i then v else xs.getD j 0 := by
  rw [List.getD_eq_getElem?_getD, List.getD_eq_getElem?_getD]
  by_cases e : j = i
  · subst e; rw [List.getElem?_set_self hi, if_pos rfl]; rfl
  · rw [List.getElem?_set_ne (Ne.symm e), if_neg e]
/-- the state of the search -/
structure FI (T lo hi : List (List Int)) (Rf Cf : Nat → Int) (rs ws : List Int) (h w : Nat) : Prop where
  rl : rs.length = h
  wl : ws.length = w
  bd : ∀ i j, i < h → j < w → cl lo i j ≤ cl T i j ∧ cl T i j ≤ cl hi i j
  r : ∀ i, i < h → rs.getD i 0 + sumR w (fun j => cl T i j) = Rf i
  c : ∀ j, j < w → ws.getD j 0 + sumR h (fun i => cl T i j) = Cf j
  r0 : ∀ i, i < h → 0 ≤ rs.getD i 0
  w0 : ∀ j, j < w → 0 ≤ ws.getD j 0
theorem FI.step {T T' lo hi : List (List Int)} {Rf Cf : Nat → Int} {rs ws : List Int} {h w : Nat} {p : List FN} {am : Int} {f l : Nat} (I : FI T lo hi Rf Cf rs ws h w) (W : Way T lo hi h w p) (hf : fnd p 0 = (0, f)) (hl : fnd p (p.length - 1) = (1, l)) (fh : f < h) (lw : l < w)
    (a1 : 1 ≤ am) (ar : ∀ k, k < p.length - 1 → am ≤ room T lo hi (fnd p k) (fnd p (k + 1))) (af : am ≤ rs.getD f 0) (al : am ≤ ws.getD l 0) (hT : ∀ i j, i < h → j < w → cl T' i j = cl T i j + am * fDl p (p.length - 1) i j) :
    FI T' lo hi Rf Cf (rs.set f (rs.getD f 0 - am)) (ws.set l (ws.getD l 0 - am)) h w ∧ sumR h (fun i => (rs.set f (rs.getD f 0 - am)).getD i 0) = sumR h (fun i => rs.getD i 0) - am := by
  have hm : p.length - 1 < p.length := by have := W.ne; omega
  have frl : f < rs.length := by rw [I.rl]; exact fh
  have lwl : l < ws.length := by rw [I.wl]; exact lw
  refine ⟨⟨by rw [List.length_set]; exact I.rl, by rw [List.length_set]; exact I.wl, fun i j hi hj => ?_, fun i hi => ?_, fun j hj => ?_, fun i hi => ?_, fun j hj => ?_⟩, ?_⟩
  · rw [hT i j hi hj]
    exact W.bounds hm (by omega) ar (I.bd i j hi hj)
  · rw [getD_set frl, sumR_congr (fun j hj => hT i j hi hj), sumR_add, sumR_mul, W.dl_row hm, hf, hl]
    have := (show rs.getD i 0 + sumR w (cl T i) = Rf i from I.r i hi)
    by_cases e : i = f
    · subst e
      rw [if_pos rfl, if_pos rfl, if_neg (by intro z; injection z; omega)]
      omega
    · rw [if_neg e, if_neg (by intro z; injection z with _ z; exact e z.symm), if_neg (by intro z; injection z; omega)]
      omega
  · rw [getD_set lwl, sumR_congr (n := h) (fun i hi => hT i j hi hj), sumR_add, sumR_mul, W.dl_col hm, hf, hl]
    have := I.c j hj
    by_cases e : j = l
    · subst e
      rw [if_pos rfl, if_pos rfl, if_neg (by intro z; injection z; omega)]
      omega
    · rw [if_neg e, if_neg (by intro z; injection z with _ z; exact e z.symm), if_neg (by intro z; injection z; omega)]
      omega
  · rw [getD_set frl]
    have := I.r0 i hi
    split <;> omega
  · rw [getD_set lwl]
    have := I.w0 j hj
    split <;> omega
  · rw [sumR_congr (g := fun i => rs.getD i 0 - if i = f then am else 0) (fun i hi => by
      rw [getD_set frl]
      by_cases e : i = f
      · subst e; rw [if_pos rfl, if_pos rfl]
      · rw [if_neg e, if_neg e]; omega), sumR_sub, sumR_pick (fun _ => am) fh]
theorem FI.full {T lo hi : List (List Int)} {Rf Cf : Nat → Int} {rs ws : List Int} {h w : Nat} (I : FI T lo hi Rf Cf rs ws h w) (hs : sumR h Rf = sumR w Cf) (hz : ∀ i, i < h → rs.getD i 0 ≤ 0) : (∀ i, i < h → sumR w (fun j => cl T i j) = Rf i) ∧ ∀ j, j < w → sumR h (fun i => cl T i j) = Cf j := by
  have e1 : ∀ i, i < h → rs.getD i 0 = 0 := fun i hi => by have := I.r0 i hi; have := hz i hi; omega
  have e2 : sumR w (fun j => ws.getD j 0) ≤ 0 := by
    have h1 : sumR h Rf = sumR h fun i => sumR w fun j => cl T i j := sumR_congr fun i hi => by have := I.r i hi; rw [e1 i hi] at this; omega
    have h2 : sumR w Cf = sumR w (fun j => ws.getD j 0) + sumR w fun j => sumR h fun i => cl T i j := by
      rw [← sumR_add]
      exact sumR_congr fun j hj => (I.c j hj).symm
    rw [sumR_swap] at h1
    omega
  have e3 := sumR_all0 I.w0 e2
  exact ⟨fun i hi => by have := I.r i hi; rw [e1 i hi] at this; omega, fun j hj => by have := I.c j hj; rw [e3 j hj] at this; omega⟩
theorem FI.cut {T lo hi : List (List Int)} {Rf Cf : Nat → Int} {rs ws : List Int} {h w : Nat} {g : FN → Option (Option FN)} {ks : List FN} {A B : List Nat} (I : FI T lo hi Rf Cf rs ws h w) (r : Rch T lo hi h w rs g ks) (hk : ∀ x, (g x).isSome = true ↔ x ∈ ks)
    (cl1 : ∀ x ∈ ks, ∀ y, nxt T lo hi h w x y → y ∈ ks) (cl2 : ∀ j, (1, j) ∈ ks → ws.getD j 0 ≤ 0) (h0 : 0 < ks.length) (hA : ∀ i, i ∈ A ↔ (0, i) ∈ ks) (hB : ∀ j, j ∈ B ↔ (1, j) ∈ ks) : CutOk Rf Cf lo hi h w (fun i => decide (i ∈ A)) (fun j => decide (j ∈ B)) := by
  refine cut_full (T := T) (fun i hi => by have := I.r i hi; have := I.r0 i hi; omega) (fun j hj hb => ?_) (fun i j ih hj ha hb => ?_) (fun i j ih hj ha hb => ?_) ?_
  · have := cl2 j ((hB j).mp (of_decide_eq_true hb))
    have := I.w0 j hj
    have := I.c j hj
    omega
  · have ha := (hA i).mp (of_decide_eq_true ha)
    have hb := fun z => of_decide_eq_false hb ((hB j).mpr z)
    have := I.bd i j ih hj
    by_cases e : cl T i j < cl hi i j
    · exact absurd (cl1 _ ha (1, j) (.inl ⟨rfl, rfl, ih, hj, e⟩)) hb
    · omega
  · have ha := fun z => of_decide_eq_false ha ((hA i).mpr z)
    have hb := (hB j).mp (of_decide_eq_true hb)
    have := I.bd i j ih hj
    by_cases e : cl lo i j < cl T i j
    · exact absurd (cl1 _ hb (0, i) (.inr ⟨rfl, rfl, hj, ih, e⟩)) ha
    · omega
  · obtain ⟨x, hx⟩ : ∃ x, ks[0]? = some x := ⟨ks[0], List.getElem?_eq_getElem h0⟩
    have hxm := List.mem_of_getElem? hx
    obtain ⟨o, ho⟩ := Option.isSome_iff_exists.mp ((hk x).mpr hxm)
    cases o with
    | some p =>
      obtain ⟨j, hj, _⟩ := r.back 0 x p hx ho
      omega
    | none =>
      obtain ⟨h1, h2⟩ := r.root x ho
      have hv : x.2 < h := by
        rcases r.val x hxm with ⟨_, z⟩ | ⟨z, _⟩
        · exact z
        · omega
      refine ⟨x.2, hv, decide_eq_true ((hA x.2).mpr ?_), ?_⟩
      · have : ((0, x.2) : FN) = x := Prod.ext h1.symm rfl
        rw [this]; exact hxm
      · have := I.r x.2 hv
        omega
theorem filled_up_spec {S : Sto} {rn wn l u h w : Nat} {rs ws : List Int} {PL PU : Rws} {Rf Cf : Nat → Int} (hrs : S[rn]? = some (.lst (rs.map V.int))) (hws : S[wn]? = some (.lst (ws.map V.int))) (tl : Tb S l PL) (tu : Tb S u PU) (hRL : Rect w (rowsOf PL)) (hRU : Rect w (rowsOf PU)) (hlL : PL.length = h) (hlU : PU.length = h) (h8 : h ≤ 1000) (w8 : w ≤ 1000) (w1 : 1 ≤ w)
    (sep : ∀ n ∈ [rn, wn], n ≠ l ∧ n ≠ u ∧ n ∉ PL.map Prod.fst ∧ n ∉ PU.map Prod.fst) (hne : rn ≠ wn) (hs : sumR h Rf = sumR w Cf) (I0 : FI (rowsOf PL) (rowsOf PL) (rowsOf PU) Rf Cf rs ws h w) :
    ∃ (S' : Sto) (tp : Nat), r_filled_up [.ref rn, .ref wn, .ref l, .ref u] S = .ok (.ref tp) S' ∧ Up [rn, wn] S S' ∧ ((∃ (c : Nat) (Q : Rws), S'[tp]? = some (.tup [.str (PySem.Str.ofString "table"), .ref c]) ∧ Btw S' S.length c Q Rf Cf (rowsOf PL) (rowsOf PU) h w) ∨ ∃ (na nb : Nat) (A B : List Nat), CutS S' S.length tp na nb A B ∧ CutI A B Rf Cf (rowsOf PL) (rowsOf PU) h w) := by
  obtain ⟨P0, S1, e1, u1, hP0, f0⟩ := copy_tb (k := 5) (te := e_filled_up_1) (σ := [some (.ref rn), some (.ref wn), some (.ref l), some (.ref u), none, none, none, none, none, none, none, none]) rfl tl
  simp (decide := true) only [ev, ex9, exA, exB, exD, decide_true, decide_false, Bool.not_true, Bool.not_false, not_true, not_false_iff, eq_self, List.length_map, if_true, if_false, Bool.false_eq_true, r_filled_up_eq, c_filled_up, tl.rd, items_tb, e1]
  have u2 := u1.trans (Up.app [] S1 [.lst (P0.map fun p => V.ref p.1)])
  have t0 : Tb (S1 ++ [.lst (P0.map fun p => V.ref p.1)]) S1.length P0 := (f0.up (Up.app _ _ _)).tb (snew _ _)
  have lS := u1.len
  generalize S1 ++ [Ob.lst (P0.map fun p => V.ref p.1)] = S2 at u2 t0 ⊢
  generalize S1.length = c at t0 lS ⊢
  have hP0l : P0.length = h := by
    have := congrArg List.length hP0
    rw [rowsOf, rowsOf, List.length_map, List.length_map] at this
    omega
  have hrS := slt hrs
  have hwS := slt hws
  -- the names that change
  have nP0 : ∀ {n : Nat}, n < S.length → n ∉ P0.map Prod.fst := fun {n} hn hm => by
    obtain ⟨p, hp, rfl⟩ := List.mem_map.mp hm
    have := f0.new p hp
    omega
  have nM : ∀ {n : Nat}, n < S.length → n ≠ rn → n ≠ wn → n ∉ rn :: wn :: P0.map Prod.fst := fun {n} hn h1 h2 hm => by
    rcases List.mem_cons.mp hm with e | hm
    · exact h1 e
    · rcases List.mem_cons.mp hm with e | hm
      · exact h2 e
      · exact nP0 hn hm
  have sr := sep rn (by simp)
  have sw := sep wn (by simp)
  have tL : ∀ {S' : Sto}, Up (rn :: wn :: P0.map Prod.fst) S2 S' → Tb S' l PL := fun {S'} v => (tl.up u2).upM v (nM tl.lt (fun e => sr.1 e.symm) (fun e => sw.1 e.symm)) fun p hp => nM (tl.ltr hp) (fun e => sr.2.2.1 (by rw [← e]; exact List.mem_map_of_mem hp)) (fun e => sw.2.2.1 (by rw [← e]; exact List.mem_map_of_mem hp))
  have tU : ∀ {S' : Sto}, Up (rn :: wn :: P0.map Prod.fst) S2 S' → Tb S' u PU := fun {S'} v => (tu.up u2).upM v (nM tu.lt (fun e => sr.2.1 e.symm) (fun e => sw.2.1 e.symm)) fun p hp => nM (tu.ltr hp) (fun e => sr.2.2.2 (by rw [← e]; exact List.mem_map_of_mem hp)) (fun e => sw.2.2.2 (by rw [← e]; exact List.mem_map_of_mem hp))
  obtain ⟨S3, tp, cm, sv, g, ks, e3, u3, htp, hcm, hC, hRc, hend⟩ := reached_nodes_spec (u2.get hrs) (u2.get hws) I0.rl I0.wl t0 (tl.up u2) (tu.up u2) (by rw [hP0]; exact hRL) hRL hRU hP0l hlL hlU h8 w8 w1
  simp (decide := true) only [ev, ex9, exA, exB, exD, decide_true, decide_false, Bool.not_true, Bool.not_false, not_true, not_false_iff, eq_self, List.length_map, if_true, if_false, Bool.false_eq_true, e3, rdLT_tup htp, kGT2]
  let End : Sto → V → List (List Int) → List Int → List Int → (FN → Option (Option FN)) → List FN → Prop := fun S' sv T rs ws g ks => (sv = .non ∧ (∀ x ∈ ks, ∀ y, nxt T (rowsOf PL) (rowsOf PU) h w x y → y ∈ ks) ∧ (∀ k, k < h → 0 < rs.getD k 0 → (0, k) ∈ ks) ∧ ∀ j, (1, j) ∈ ks → ws.getD j 0 ≤ 0) ∨ ∃ (m : Nat) (x : FN), sv = .ref m ∧ NdF S' m x ∧ x ∈ ks ∧ x.1 = 1 ∧ 0 < ws.getD x.2 0
  obtain ⟨σ4, S4, e4, P, rs', ws', cm', g', ks', rfl, u4, hN4, tP4, hR4, hr4, hw4, I4, hC4, hRc4, c41, c42, c43⟩ := whileM_dn (t := t_filled_up_1) (ws := [8, 9, 10, 11]) (body := b_filled_up_1)
    (fun n σ S' => ∃ (P : Rws) (rs ws : List Int) (cm : Nat) (sv : V) (g : FN → Option (Option FN)) (ks : List FN), σ = [some (.ref rn), some (.ref wn), some (.ref l), some (.ref u), some (.ref c), none, some (.ref cm), some sv, none, none, none, none] ∧ Up (rn :: wn :: P0.map Prod.fst) S2 S' ∧ P.map Prod.fst = P0.map Prod.fst ∧ Tb S' c P ∧ Rect w (rowsOf P) ∧ S'[rn]? = some (.lst (rs.map V.int)) ∧ S'[wn]? = some (.lst (ws.map V.int)) ∧
      FI (rowsOf P) (rowsOf PL) (rowsOf PU) Rf Cf rs ws h w ∧ CT S' cm g ks ∧ Rch (rowsOf P) (rowsOf PL) (rowsOf PU) h w rs g ks ∧ End S' sv (rowsOf P) rs ws g ks ∧ n = (sumR h fun i => rs.getD i 0).toNat)
    (fun σ S' => ∃ (P : Rws) (rs ws : List Int) (cm : Nat) (g : FN → Option (Option FN)) (ks : List FN), σ = [some (.ref rn), some (.ref wn), some (.ref l), some (.ref u), some (.ref c), none, some (.ref cm), some .non, none, none, none, none] ∧ Up (rn :: wn :: P0.map Prod.fst) S2 S' ∧ P.map Prod.fst = P0.map Prod.fst ∧ Tb S' c P ∧ Rect w (rowsOf P) ∧ S'[rn]? = some (.lst (rs.map V.int)) ∧ S'[wn]? = some (.lst (ws.map V.int)) ∧
      FI (rowsOf P) (rowsOf PL) (rowsOf PU) Rf Cf rs ws h w ∧ CT S' cm g ks ∧ Rch (rowsOf P) (rowsOf PL) (rowsOf PU) h w rs g ks ∧ (∀ x ∈ ks, ∀ y, nxt (rowsOf P) (rowsOf PL) (rowsOf PU) h w x y → y ∈ ks) ∧ (∀ k, k < h → 0 < rs.getD k 0 → (0, k) ∈ ks) ∧ ∀ j, (1, j) ∈ ks → ws.getD j 0 ≤ 0)
    (fun n σ S' hI => by
      obtain ⟨P, rs, ws, cm, sv, g, ks, rfl, hU, hN, tP, hR, hr, hw, I, hC, hRc, hE, hn⟩ := hI
      rcases hE with ⟨rfl, k1, k2, k3⟩ | ⟨m, x, rfl, nm, hx, hx1, hxp⟩
      · exact .inl ⟨S', by simp (decide := true) only [ev, ex9, exA, exB, exD, decide_true, decide_false, Bool.not_true, Bool.not_false, not_true, not_false_iff, eq_self, List.length_map, if_true, if_false, Bool.false_eq_true, t_filled_up_1], P, rs, ws, cm, g, ks, rfl, hU, hN, tP, hR, hr, hw, I, hC, hRc, k1, k2, k3⟩
      · right
        refine ⟨S', by simp (decide := true) only [ev, ex9, exA, exB, exD, decide_true, decide_false, Bool.not_true, Bool.not_false, not_true, not_false_iff, eq_self, List.length_map, if_true, if_false, Bool.false_eq_true, t_filled_up_1, notNM_ref], ?_⟩
        have hPl : P.length = h := by rw [← hP0l, ← List.length_map (f := Prod.fst) (as := P), hN, List.length_map]
        have nodP : (P.map Prod.fst).Nodup := by rw [hN]; exact f0.nod
        obtain ⟨Sa, q, L, ea, ua, hq, hL, W, hg0, hlast⟩ := way_back_spec hC hRc nm hx h8 w8
        have hLp : (L.map Prod.snd).length = L.length := List.length_map ..
        have hL0 : 0 < L.length := by rw [← hLp]; exact W.ne
        have hkl := hRc.len
        obtain ⟨hf1, hf2⟩ := hRc.root _ hg0
        have hfv : (fnd (L.map Prod.snd) 0).2 < h := by
          rcases hRc.val _ ((hC.keys _).mp (by rw [hg0]; rfl)) with ⟨_, z⟩ | ⟨z, _⟩
          · exact z
          · omega
        have hxv : x.2 < w := by
          rcases hRc.val _ hx with ⟨z, _⟩ | ⟨_, z⟩
          · omega
          · exact z
        have hLl : L.length ≤ 10000 := by
          have := nodup_le (fun r : FN => r) (xs := L.map Prod.snd) (ys := allN h w) (by rw [List.map_id']; exact W.nod) (fun y hy => by
            obtain ⟨k, hk⟩ := List.mem_iff_getElem?.mp hy
            have hkl := (List.getElem?_eq_some_iff.mp hk).1
            have hv : fval h w y := by
              have e := fnd_at hkl
              rw [hk] at e
              have e := Option.some.inj e
              cases k with
              | zero => rw [e]; exact .inl ⟨hf1, hfv⟩
              | succ k => rw [e]; exact (W.st k hkl).val.2
            unfold allN
            rw [List.mem_append, List.mem_map, List.mem_map]
            rcases hv with ⟨h1, h2⟩ | ⟨h1, h2⟩
            · exact .inl ⟨y.2, List.mem_range.mpr h2, by rw [← h1]⟩
            · exact .inr ⟨y.2, List.mem_range.mpr h2, by rw [← h1]⟩)
          unfold allN at this
          rw [hLp, List.length_append, List.length_map, List.length_map, List.length_range, List.length_range] at this
          omega
        obtain ⟨m0, hm0, nm0⟩ := hL.at' (i := 0) (fnd_at (by omega))
        have i0 : ixQ (.ref q) (.int 0) Sa = .ok (.ref m0) Sa := ixQ_at (k := 0) (rdLT_lst hL.1) hm0
        have hUa := hU.trans ua.any
        obtain ⟨Sb, b, eb, ub, hb, kb⟩ := rooms_on_spec hL (tP.up ua) (tL hUa) (tU hUa) hR hRL hRU hPl hlL hlU W hLl
        have uab := ua.trans ub
        have ir : ixQ (.ref rn) (.int ((fnd (L.map Prod.snd) 0).2 : Int)) Sb = .ok (.int (rs.getD (fnd (L.map Prod.snd) 0).2 0)) Sb := ixQ_at (rdLT_lst (uab.get hr)) (by rw [List.getElem?_map, List.getD_eq_getElem?_getD, List.getElem?_eq_getElem (by rw [I.rl]; exact hfv)]; rfl)
        have iw : ixQ (.ref wn) (.int (x.2 : Int)) Sb = .ok (.int (ws.getD x.2 0)) Sb := ixQ_at (rdLT_lst (uab.get hw)) (by rw [List.getElem?_map, List.getD_eq_getElem?_getD, List.getElem?_eq_getElem (by rw [I.wl]; exact hxv)]; rfl)
        have uc := Up.app [] Sb [.lst [.int (rs.getD (fnd (L.map Prod.snd) 0).2 0), .int (ws.getD x.2 0)]]
        have kc := snew Sb (.lst [.int (rs.getD (fnd (L.map Prod.snd) 0).2 0), .int (ws.getD x.2 0)])
        have kb2 := uc.get kb
        have hcat := catM_at kb2 kc (by rw [List.length_map, List.length_map, List.length_range]; show L.length - 1 + 2 ≤ _; omega)
        simp (decide := true) only [ev, ex9, exA, exB, exD, decide_true, decide_false, Bool.not_true, Bool.not_false, not_true, not_false_iff, eq_self, List.length_map, if_true, if_false, Bool.false_eq_true, b_filled_up_1, ea, i0, nm0.i1, (nm.up ua).i1, eb, ir, iw, hcat]
        have uabc := uab.trans uc
        have uac := ub.trans uc
        generalize Sb ++ [Ob.lst [V.int (rs.getD (fnd (L.map Prod.snd) 0).2 0), V.int (ws.getD x.2 0)]] = Sc at uc kc kb2 uabc uac ⊢
        have hml : (((List.range (L.length - 1)).map fun k => room (rowsOf P) (rowsOf PL) (rowsOf PU) (fnd (L.map Prod.snd) k) (fnd (L.map Prod.snd) (k + 1))).map V.int ++ [V.int (rs.getD (fnd (L.map Prod.snd) 0).2 0), V.int (ws.getD x.2 0)]) = (((List.range (L.length - 1)).map fun k => room (rowsOf P) (rowsOf PL) (rowsOf PU) (fnd (L.map Prod.snd) k) (fnd (L.map Prod.snd) (k + 1))) ++ [rs.getD (fnd (L.map Prod.snd) 0).2 0, ws.getD x.2 0]).map V.int := by rw [List.map_append]; rfl
        rw [hml]
        have ud := Up.app [] Sc [.lst ((((List.range (L.length - 1)).map fun k => room (rowsOf P) (rowsOf PL) (rowsOf PU) (fnd (L.map Prod.snd) k) (fnd (L.map Prod.snd) (k + 1))) ++ [rs.getD (fnd (L.map Prod.snd) 0).2 0, ws.getD x.2 0]).map V.int)]
        have kd := snew Sc (.lst ((((List.range (L.length - 1)).map fun k => room (rowsOf P) (rowsOf PL) (rowsOf PU) (fnd (L.map Prod.snd) k) (fnd (L.map Prod.snd) (k + 1))) ++ [rs.getD (fnd (L.map Prod.snd) 0).2 0, ws.getD x.2 0]).map V.int))
        have hm := minM_at (rdL_lst kd) (by simp)
        have msp := minL_spec (ns := ((List.range (L.length - 1)).map fun k => room (rowsOf P) (rowsOf PL) (rowsOf PU) (fnd (L.map Prod.snd) k) (fnd (L.map Prod.snd) (k + 1))) ++ [rs.getD (fnd (L.map Prod.snd) 0).2 0, ws.getD x.2 0]) (by simp)
        have ar : ∀ k, k < (L.map Prod.snd).length - 1 → minL (((List.range (L.length - 1)).map fun k => room (rowsOf P) (rowsOf PL) (rowsOf PU) (fnd (L.map Prod.snd) k) (fnd (L.map Prod.snd) (k + 1))) ++ [rs.getD (fnd (L.map Prod.snd) 0).2 0, ws.getD x.2 0]) ≤ room (rowsOf P) (rowsOf PL) (rowsOf PU) (fnd (L.map Prod.snd) k) (fnd (L.map Prod.snd) (k + 1)) := fun k hk => msp.2 _ (List.mem_append_left _ (List.mem_map.mpr ⟨k, List.mem_range.mpr (by rw [← hLp]; exact hk), rfl⟩))
        have af := msp.2 (rs.getD (fnd (L.map Prod.snd) 0).2 0) (by simp)
        have al := msp.2 (ws.getD x.2 0) (by simp)
        have a1 : 1 ≤ minL (((List.range (L.length - 1)).map fun k => room (rowsOf P) (rowsOf PL) (rowsOf PU) (fnd (L.map Prod.snd) k) (fnd (L.map Prod.snd) (k + 1))) ++ [rs.getD (fnd (L.map Prod.snd) 0).2 0, ws.getD x.2 0]) := by
          rcases List.mem_append.mp msp.1 with hmm | hmm
          · obtain ⟨k, hk, ek⟩ := List.mem_map.mp hmm
            rw [List.mem_range] at hk
            rw [← ek]
            exact (W.st k (by omega)).room
          · rcases List.mem_cons.mp hmm with e | hmm
            · rw [e]; omega
            · rw [List.mem_singleton.mp hmm]; omega
        simp (decide := true) only [ev, ex9, exA, exB, exD, decide_true, decide_false, Bool.not_true, Bool.not_false, not_true, not_false_iff, eq_self, List.length_map, if_true, if_false, Bool.false_eq_true, hm]
        generalize minL (((List.range (L.length - 1)).map fun k => room (rowsOf P) (rowsOf PL) (rowsOf PU) (fnd (L.map Prod.snd) k) (fnd (L.map Prod.snd) (k + 1))) ++ [rs.getD (fnd (L.map Prod.snd) 0).2 0, ws.getD x.2 0]) = am at ar af al a1 ⊢
        have ud' := uabc.trans ud
        have uad := uac.trans ud
        generalize Sc ++ [Ob.lst ((((List.range (L.length - 1)).map fun k => room (rowsOf P) (rowsOf PL) (rowsOf PU) (fnd (L.map Prod.snd) k) (fnd (L.map Prod.snd) (k + 1))) ++ [rs.getD (fnd (L.map Prod.snd) 0).2 0, ws.getD x.2 0]).map V.int)] = Sd at ud' uad ⊢
        have qP : q ∉ P.map Prod.fst := fun hmm => by
          obtain ⟨p, hp, e⟩ := List.mem_map.mp hmm
          have := tP.ltr hp
          omega
        obtain ⟨Se, Q, ee, ue, tQ, hNQ, hRQ, hcl⟩ := pushed_along_spec (r := am) (hL.up uad) (tP.up ud') nodP hR hPl qP W
        have nrP : rn ∉ P.map Prod.fst := by rw [hN]; exact nP0 hrS
        have nwP : wn ∉ P.map Prod.fst := by rw [hN]; exact nP0 hwS
        have hrE := ue.at' _ _ nrP (ud'.get hr)
        have hwE := ue.at' _ _ nwP (ud'.get hw)
        have g1 := getL_I hrE (i := ((fnd (L.map Prod.snd) 0).2 : Int)) (by omega) (by have := I.rl; omega)
        have s1 := setL_I hrE (i := ((fnd (L.map Prod.snd) 0).2 : Int)) (v := rs.getD (fnd (L.map Prod.snd) 0).2 0 - am) (by omega) (by have := I.rl; omega)
        rw [Int.toNat_natCast] at g1 s1
        simp (decide := true) only [ev, ex9, exA, exB, exD, decide_true, decide_false, Bool.not_true, Bool.not_false, not_true, not_false_iff, eq_self, List.length_map, if_true, if_false, Bool.false_eq_true, ee, g1, s1]
        have uf : Up [rn] Se (Se.set rn (.lst ((rs.set (fnd (L.map Prod.snd) 0).2 (rs.getD (fnd (L.map Prod.snd) 0).2 0 - am)).map V.int))) := Up.set (List.mem_singleton.mpr rfl) _
        have hrF : (Se.set rn (.lst ((rs.set (fnd (L.map Prod.snd) 0).2 (rs.getD (fnd (L.map Prod.snd) 0).2 0 - am)).map V.int)))[rn]? = some (.lst ((rs.set (fnd (L.map Prod.snd) 0).2 (rs.getD (fnd (L.map Prod.snd) 0).2 0 - am)).map V.int)) := sset_same hrE
        have hwF := uf.get1 hwE (Ne.symm hne)
        generalize Se.set rn (.lst ((rs.set (fnd (L.map Prod.snd) 0).2 (rs.getD (fnd (L.map Prod.snd) 0).2 0 - am)).map V.int)) = Sf at uf hrF hwF ⊢
        have g2 := getL_I hwF (i := (x.2 : Int)) (by omega) (by have := I.wl; omega)
        have s2 := setL_I hwF (i := (x.2 : Int)) (v := ws.getD x.2 0 - am) (by omega) (by have := I.wl; omega)
        rw [Int.toNat_natCast] at g2 s2
        simp (decide := true) only [ev, ex9, exA, exB, exD, decide_true, decide_false, Bool.not_true, Bool.not_false, not_true, not_false_iff, eq_self, List.length_map, if_true, if_false, Bool.false_eq_true, g2, s2]
        have ug : Up [wn] Sf (Sf.set wn (.lst ((ws.set x.2 (ws.getD x.2 0 - am)).map V.int))) := Up.set (List.mem_singleton.mpr rfl) _
        have hwG : (Sf.set wn (.lst ((ws.set x.2 (ws.getD x.2 0 - am)).map V.int)))[wn]? = some (.lst ((ws.set x.2 (ws.getD x.2 0 - am)).map V.int)) := sset_same hwF
        have hrG := ug.get1 hrF hne
        generalize Sf.set wn (.lst ((ws.set x.2 (ws.getD x.2 0 - am)).map V.int)) = Sg at ug hwG hrG ⊢
        have hUg : Up (rn :: wn :: P0.map Prod.fst) S2 Sg := (((hU.trans ud'.any).trans (ue.mono (fun y hy => by rw [hN] at hy; simp [hy]))).trans (uf.mono (by simp))).trans (ug.mono (by simp))
        have nQ : Q.map Prod.fst = P0.map Prod.fst := hNQ.trans hN
        have cS : S.length ≤ c := lS
        have tQg : Tb Sg c Q := by
          have h1 := tQ.upM uf (by simp only [List.mem_singleton]; omega) (fun p hp hm => nP0 hrS (by rw [← nQ, ← List.mem_singleton.mp hm]; exact List.mem_map_of_mem hp))
          exact h1.upM ug (by simp only [List.mem_singleton]; omega) (fun p hp hm => nP0 hwS (by rw [← nQ, ← List.mem_singleton.mp hm]; exact List.mem_map_of_mem hp))
        have hQl : Q.length = h := by rw [← hP0l, ← List.length_map (f := Prod.fst) (as := Q), nQ, List.length_map]
        have hf0 : fnd (L.map Prod.snd) 0 = (0, (fnd (L.map Prod.snd) 0).2) := Prod.ext hf1 rfl
        have hl0 : fnd (L.map Prod.snd) ((L.map Prod.snd).length - 1) = (1, x.2) := by rw [hLp, hlast]; exact Prod.ext hx1 rfl
        obtain ⟨I', hsum⟩ := I.step W hf0 hl0 hfv hxv a1 ar af al (fun i j hi hj => by rw [hLp]; exact hcl i j hi hj)
        obtain ⟨Sh, tp', cm', sv', g', ks', eh, uh, htp', hcm', hC', hRc', hE'⟩ := reached_nodes_spec hrG hwG I'.rl I'.wl tQg (tL hUg) (tU hUg) hRQ hRL hRU hQl hlL hlU h8 w8 w1
        simp (decide := true) only [ev, ex9, exA, exB, exD, decide_true, decide_false, Bool.not_true, Bool.not_false, not_true, not_false_iff, eq_self, List.length_map, if_true, if_false, Bool.false_eq_true, eh, rdLT_tup htp', kGT2, Tn_nx]
        have hge := sumR_ge0 I'.r0
        refine ⟨_, ?_, Q, _, _, cm', sv', g', ks', rfl, hUg.trans uh.any, nQ, tQg.up uh, hRQ, uh.get hrG, uh.get hwG, I', hC', hRc', hE', rfl⟩
        rw [hn, hsum]
        omega) (n := (sumR h fun i => rs.getD i 0).toNat) (σ := [some (.ref rn), some (.ref wn), some (.ref l), some (.ref u), some (.ref c), none, some (.ref cm), some sv, none, none, none, none]) (S := S3)
    ⟨P0, rs, ws, cm, sv, g, ks, rfl, u3.any, rfl, t0.up u3, by rw [hP0]; exact hRL, u3.get (u2.get hrs), u3.get (u2.get hws), by rw [hP0]; exact I0, hC, hRc, hend, rfl⟩
  have hP4l : P.length = h := by rw [← hP0l, ← List.length_map (f := Prod.fst) (as := P), hN4, List.length_map]
  have U4 : Up [rn, wn] S S4 := ⟨Nat.le_trans u2.len u4.len, fun a o ha e => u4.at' a o (nM (slt e) (fun z => ha (by rw [z]; simp)) (fun z => ha (by rw [z]; simp))) (u2.get e)⟩
  by_cases h0 : 0 < ks'.length
  · have h0' : (0 : Int) < (ks'.length : Int) := by omega
    obtain ⟨S5, tp5, na, nb, A, B, e5, u5, hcut, upA, upB, mA, mB⟩ := cut_of_spec hC4 hRc4
    simp (decide := true) only [ev, ex9, exA, exB, exD, decide_true, decide_false, Bool.not_true, Bool.not_false, not_true, not_false_iff, eq_self, List.length_map, if_true, if_false, Bool.false_eq_true, e4, hC4.len, h0', e5]
    refine ⟨S5, tp5, rfl, U4.trans u5.any, .inr ⟨na, nb, A, B, ⟨hcut.1, hcut.2.1, hcut.2.2.1, Nat.le_trans (Nat.le_trans u2.len u4.len) hcut.2.2.2.1, hcut.2.2.2.2⟩, upA, upB, fun i hi => ?_, fun j hj => ?_, I4.cut hRc4 hC4.keys c41 c43 h0 mA mB⟩⟩
    · rcases hRc4.val _ ((mA i).mp hi) with ⟨_, z⟩ | ⟨z, _⟩
      · exact z
      · cases z
    · rcases hRc4.val _ ((mB j).mp hj) with ⟨z, _⟩ | ⟨_, z⟩
      · cases z
      · exact z
  · have h0' : ¬ (0 : Int) < (ks'.length : Int) := by omega
    have hk0 : ks' = [] := List.length_eq_zero_iff.mp (by omega)
    subst hk0
    obtain ⟨fr, fc⟩ := I4.full hs (fun i hi => by
      by_cases e : 0 < rs'.getD i 0
      · exact absurd (c42 i hi e) (by simp)
      · omega)
    simp (decide := true) only [ev, ex9, exA, exB, exD, decide_true, decide_false, Bool.not_true, Bool.not_false, not_true, not_false_iff, eq_self, List.length_map, if_true, if_false, Bool.false_eq_true, e4, hC4.len, h0']
    have v := Up.app [] S4 [.tup [.str (PySem.Str.ofString "table"), .ref c]]
    exact ⟨_, _, rfl, U4.trans v.any, .inl ⟨c, P, snew _ _, tP4.up v, by rw [hN4]; exact f0.nod, fun p hp => by
      have : p.1 ∈ P0.map Prod.fst := by rw [← hN4]; exact List.mem_map_of_mem hp
      obtain ⟨p', hp', e⟩ := List.mem_map.mp this
      rw [← e]; exact f0.new p' hp', lS, hP4l, hR4, I4.bd, fr, fc⟩⟩

/-! table_between -/
theorem getD_some {xs : List Int} {i : Nat} (h : i < xs.length) : xs[i]? = some (xs.getD i 0) := by rw [List.getD_eq_getElem?_getD, List.getElem?_eq_getElem h]; rfl
theorem zip_take {P Q : Rws} {i : Nat} {x : (Nat × List Int) × (Nat × List Int)} (h : (P.zip Q)[i]? = some x) : P[i]? = some x.1 ∧ Q[i]? = some x.2 := by
  obtain ⟨a, b⟩ := x
  exact (List.getElem?_zip_eq_some).mp h
theorem row_cl {P : Rws} {i : Nat} {p : Nat × List Int} (h : P[i]? = some p) (j : Nat) : p.2.getD j 0 = cl (rowsOf P) i j := by
  unfold cl rowsOf
  rw [List.getD_eq_getElem?_getD (l := List.map _ _), List.getElem?_map, h]; rfl
theorem tb_inner_ok {S : Sto} {xs ys : List Int} {r c l u a b : Nat} (ha : S[a]? = some (.lst (xs.map V.int))) (hb : S[b]? = some (.lst (ys.map V.int))) (h : ∀ p ∈ xs.zip ys, p.1 ≤ p.2) :
    forM (chkZ (.ref a) (.ref b) (xs.map V.int) (ys.map V.int)) (gIT [6, 7]) [6, 7] b_table_between_1 ((xs.zip ys).map fun p => .many [.int p.1, .int p.2]) [some (.ref r), some (.ref c), some (.ref l), some (.ref u), some (.ref a), some (.ref b), none, none, none, none, none] S =
      .ok (.nx [some (.ref r), some (.ref c), some (.ref l), some (.ref u), some (.ref a), some (.ref b), none, none, none, none, none]) S := by
  obtain ⟨σ', S', e, h1, h2⟩ := forM_inv (chk := chkZ (.ref a) (.ref b) (xs.map V.int) (ys.map V.int)) (tg := gIT [6, 7]) (ws := [6, 7]) (body := b_table_between_1) (items := (xs.zip ys).map fun p => Itm.many [.int p.1, .int p.2]) (fun _ σ' S' => σ' = [some (.ref r), some (.ref c), some (.ref l), some (.ref u), some (.ref a), some (.ref b), none, none, none, none, none] ∧ S' = S) (fun _ _ _ e => by rw [e.2]; exact chkZ_of (rdL_lst ha) (rdL_lst hb)) (fun i it σ' S' hit e => by
    obtain ⟨rfl, rfl⟩ := e
    rw [List.getElem?_map] at hit
    obtain ⟨p, hp, rfl⟩ := Option.map_eq_some_iff.mp hit
    refine ⟨_, gIT2 _ _ _ _ _ _, ?_⟩
    have hle := h p (List.mem_of_getElem? hp)
    have hn : ¬ p.2 < p.1 := by omega
    simp (decide := true) only [ev, ex9, exA, exB, exD, decide_true, decide_false, Bool.not_true, Bool.not_false, not_true, not_false_iff, eq_self, List.length_map, if_true, if_false, Bool.false_eq_true, b_table_between_1, hn, Tn_nx]) (σ := [some (.ref r), some (.ref c), some (.ref l), some (.ref u), some (.ref a), some (.ref b), none, none, none, none, none]) (S := S) ⟨rfl, rfl⟩
  rw [e, h1, h2]
theorem tb_inner_bad {S : Sto} {xs ys : List Int} {r c l u a b : Nat} (ha : S[a]? = some (.lst (xs.map V.int))) (hb : S[b]? = some (.lst (ys.map V.int))) (h : ∃ p ∈ xs.zip ys, p.2 < p.1) :
    ∃ σ2, forM (chkZ (.ref a) (.ref b) (xs.map V.int) (ys.map V.int)) (gIT [6, 7]) [6, 7] b_table_between_1 ((xs.zip ys).map fun p => .many [.int p.1, .int p.2]) [some (.ref r), some (.ref c), some (.ref l), some (.ref u), some (.ref a), some (.ref b), none, none, none, none, none] S = .ok (.rs "NoBounds" σ2) S := by
  refine forM_raise (α := Int × Int) (fun p => .many [.int p.1, .int p.2]) _ (fun p => decide (p.2 < p.1)) (chkZ_of (rdL_lst ha) (rdL_lst hb)) (by obtain ⟨p, hp, e⟩ := h; exact ⟨p, hp, by simpa using e⟩) (fun i p hp _ => ⟨_, gIT2 _ _ _ _ _ _, fun e => ?_, fun e => ?_⟩)
  · have e : ¬ p.2 < p.1 := by simpa using e
    exact ⟨[some (.ref r), some (.ref c), some (.ref l), some (.ref u), some (.ref a), some (.ref b), some (.int p.1), some (.int p.2), none, none, none], by simp (decide := true) only [ev, ex9, exA, exB, exD, decide_true, decide_false, Bool.not_true, Bool.not_false, not_true, not_false_iff, eq_self, List.length_map, if_true, if_false, Bool.false_eq_true, b_table_between_1, e], by simp (decide := true) only [ev, ex9, exA, exB, exD, decide_true, decide_false, Bool.not_true, Bool.not_false, not_true, not_false_iff, eq_self, List.length_map, if_true, if_false, Bool.false_eq_true]⟩
  · have e : p.2 < p.1 := by simpa using e
    exact ⟨[some (.ref r), some (.ref c), some (.ref l), some (.ref u), some (.ref a), some (.ref b), some (.int p.1), some (.int p.2), none, none, none], by simp (decide := true) only [ev, ex9, exA, exB, exD, decide_true, decide_false, Bool.not_true, Bool.not_false, not_true, not_false_iff, eq_self, List.length_map, if_true, if_false, Bool.false_eq_true, b_table_between_1, e]⟩
theorem tb_outer_ok {S : Sto} {r c l u h w : Nat} {PL PU : Rws} (tl : Tb S l PL) (tu : Tb S u PU) (hRL : Rect w (rowsOf PL)) (hRU : Rect w (rowsOf PU)) (hlL : PL.length = h) (hlU : PU.length = h) (hb : ∀ i j, i < h → j < w → cl (rowsOf PL) i j ≤ cl (rowsOf PU) i j) :
    forM (chkZ (.ref l) (.ref u) (PL.map fun p => V.ref p.1) (PU.map fun p => V.ref p.1)) (gIT [4, 5]) [4, 5, 6, 7] b_table_between_2 ((PL.zip PU).map fun p => .many [.ref p.1.1, .ref p.2.1]) [some (.ref r), some (.ref c), some (.ref l), some (.ref u), none, none, none, none, none, none, none] S =
      .ok (.nx [some (.ref r), some (.ref c), some (.ref l), some (.ref u), none, none, none, none, none, none, none]) S := by
  obtain ⟨σ', S', e, h1, h2⟩ := forM_inv (chk := chkZ (.ref l) (.ref u) (PL.map fun p => V.ref p.1) (PU.map fun p => V.ref p.1)) (tg := gIT [4, 5]) (ws := [4, 5, 6, 7]) (body := b_table_between_2) (items := (PL.zip PU).map fun p => Itm.many [.ref p.1.1, .ref p.2.1]) (fun _ σ' S' => σ' = [some (.ref r), some (.ref c), some (.ref l), some (.ref u), none, none, none, none, none, none, none] ∧ S' = S) (fun _ _ _ e => by rw [e.2]; exact chkZ_of tl.rd tu.rd) (fun i it σ' S' hit e => by
    obtain ⟨rfl, rfl⟩ := e
    rw [List.getElem?_map] at hit
    obtain ⟨p, hp, rfl⟩ := Option.map_eq_some_iff.mp hit
    refine ⟨_, gIT2 _ _ _ _ _ _, ?_⟩
    obtain ⟨h1, h2⟩ := zip_take hp
    have hil := (List.getElem?_eq_some_iff.mp h1).1
    have m1 := List.mem_of_getElem? h1
    have m2 := List.mem_of_getElem? h2
    have w1 := rect_of hRL m1
    have in1 := tb_inner_ok (r := r) (c := c) (l := l) (u := u) (tl.row _ m1) (tu.row _ m2) (fun q hq => by
      obtain ⟨j, hj⟩ := List.mem_iff_getElem?.mp hq
      obtain ⟨qa, qb⟩ := q
      rw [List.getElem?_zip_eq_some] at hj
      have hjl := (List.getElem?_eq_some_iff.mp hj.1).1
      have := hb i j (by omega) (by omega)
      rw [← row_cl h1, ← row_cl h2, List.getD_eq_getElem?_getD, List.getD_eq_getElem?_getD, hj.1, hj.2] at this
      exact this)
    simp (decide := true) only [ev, ex9, exA, exB, exD, decide_true, decide_false, Bool.not_true, Bool.not_false, not_true, not_false_iff, eq_self, List.length_map, if_true, if_false, Bool.false_eq_true, b_table_between_2, tl.rdr m1, tu.rdr m2, items_zip, in1, Tn_nx]) (σ := [some (.ref r), some (.ref c), some (.ref l), some (.ref u), none, none, none, none, none, none, none]) (S := S) ⟨rfl, rfl⟩
  rw [e, h1, h2]
theorem tb_outer_bad {S : Sto} {r c l u h w i0 j0 : Nat} {PL PU : Rws} (tl : Tb S l PL) (tu : Tb S u PU) (hRL : Rect w (rowsOf PL)) (hRU : Rect w (rowsOf PU)) (hlL : PL.length = h) (hlU : PU.length = h) (hi : i0 < h) (hj : j0 < w) (hb : cl (rowsOf PU) i0 j0 < cl (rowsOf PL) i0 j0) :
    ∃ σ2, forM (chkZ (.ref l) (.ref u) (PL.map fun p => V.ref p.1) (PU.map fun p => V.ref p.1)) (gIT [4, 5]) [4, 5, 6, 7] b_table_between_2 ((PL.zip PU).map fun p => .many [.ref p.1.1, .ref p.2.1]) [some (.ref r), some (.ref c), some (.ref l), some (.ref u), none, none, none, none, none, none, none] S = .ok (.rs "NoBounds" σ2) S := by
  have bad : ∀ (x : (Nat × List Int) × (Nat × List Int)), decide (∃ p ∈ x.1.2.zip x.2.2, p.2 < p.1) = true ↔ ∃ p ∈ x.1.2.zip x.2.2, p.2 < p.1 := fun x => decide_eq_true_iff
  refine forM_raise (α := (Nat × List Int) × (Nat × List Int)) (fun p => .many [.ref p.1.1, .ref p.2.1]) _ (fun x => decide (∃ p ∈ x.1.2.zip x.2.2, p.2 < p.1)) (chkZ_of tl.rd tu.rd) ?_ (fun i p hp _ => ?_)
  · obtain ⟨n1, h1⟩ := row_of (P := PL) (i := i0) (by omega)
    obtain ⟨n2, h2⟩ := row_of (P := PU) (i := i0) (by omega)
    refine ⟨((n1, (rowsOf PL).getD i0 []), (n2, (rowsOf PU).getD i0 [])), List.mem_of_getElem? (i := i0) (List.getElem?_zip_eq_some.mpr ⟨h1, h2⟩), ?_⟩
    rw [bad]
    have w1 := rect_of hRL (List.mem_of_getElem? h1)
    have w2 := rect_of hRU (List.mem_of_getElem? h2)
    refine ⟨(cl (rowsOf PL) i0 j0, cl (rowsOf PU) i0 j0), List.mem_of_getElem? (i := j0) (List.getElem?_zip_eq_some.mpr ⟨?_, ?_⟩), hb⟩
    · rw [← row_cl h1]
      exact getD_some (by rw [w1]; exact hj)
    · rw [← row_cl h2]
      exact getD_some (by rw [w2]; exact hj)
  · obtain ⟨h1, h2⟩ := zip_take hp
    have m1 := List.mem_of_getElem? h1
    have m2 := List.mem_of_getElem? h2
    refine ⟨_, gIT2 _ _ _ _ _ _, fun e => ?_, fun e => ?_⟩
    · have in1 := tb_inner_ok (r := r) (c := c) (l := l) (u := u) (tl.row _ m1) (tu.row _ m2) (fun q hq => by
        have e := of_decide_eq_false e
        by_cases z : q.2 < q.1
        · exact absurd ⟨q, hq, z⟩ e
        · omega)
      exact ⟨[some (.ref r), some (.ref c), some (.ref l), some (.ref u), some (.ref p.1.1), some (.ref p.2.1), none, none, none, none, none], by simp (decide := true) only [ev, ex9, exA, exB, exD, decide_true, decide_false, Bool.not_true, Bool.not_false, not_true, not_false_iff, eq_self, List.length_map, if_true, if_false, Bool.false_eq_true, b_table_between_2, tl.rdr m1, tu.rdr m2, items_zip, in1], by simp (decide := true) only [ev, ex9, exA, exB, exD, decide_true, decide_false, Bool.not_true, Bool.not_false, not_true, not_false_iff, eq_self, List.length_map, if_true, if_false, Bool.false_eq_true]⟩
    · obtain ⟨σ2, in1⟩ := tb_inner_bad (r := r) (c := c) (l := l) (u := u) (tl.row _ m1) (tu.row _ m2) ((bad p).mp e)
      exact ⟨σ2, by simp (decide := true) only [ev, ex9, exA, exB, exD, decide_true, decide_false, Bool.not_true, Bool.not_false, not_true, not_false_iff, eq_self, List.length_map, if_true, if_false, Bool.false_eq_true, b_table_between_2, tl.rdr m1, tu.rdr m2, items_zip, in1]⟩
theorem between_bad {S : Sto} {r c l u h w i0 j0 : Nat} {PL PU : Rws} (tl : Tb S l PL) (tu : Tb S u PU) (hRL : Rect w (rowsOf PL)) (hRU : Rect w (rowsOf PU)) (hlL : PL.length = h) (hlU : PU.length = h) (hi : i0 < h) (hj : j0 < w) (hb : cl (rowsOf PU) i0 j0 < cl (rowsOf PL) i0 j0) :
    r_table_between [.ref r, .ref c, .ref l, .ref u] S = .exc "NoBounds" S := by
  obtain ⟨σ2, e⟩ := tb_outer_bad (r := r) (c := c) tl tu hRL hRU hlL hlU hi hj hb
  simp (decide := true) only [ev, ex9, exA, exB, exD, decide_true, decide_false, Bool.not_true, Bool.not_false, not_true, not_false_iff, eq_self, List.length_map, if_true, if_false, Bool.false_eq_true, r_table_between_eq, c_table_between, tl.rd, tu.rd, items_tbz, e]
theorem between_unlike {S : Sto} {r c l u h w : Nat} {rows cols : List Int} {PL PU : Rws} (hr : S[r]? = some (.lst (rows.map V.int))) (hc : S[c]? = some (.lst (cols.map V.int))) (tl : Tb S l PL) (tu : Tb S u PU) (hRL : Rect w (rowsOf PL)) (hRU : Rect w (rowsOf PU)) (hlL : PL.length = h) (hlU : PU.length = h)
    (hb : ∀ i j, i < h → j < w → cl (rowsOf PL) i j ≤ cl (rowsOf PU) i j) (hne : rows.sum ≠ cols.sum) :
    r_table_between [.ref r, .ref c, .ref l, .ref u] S = .ok (.ref S.length) (S ++ [.tup [.str (PySem.Str.ofString "unlike"), .int rows.sum, .int cols.sum]]) := by
  have e := tb_outer_ok (r := r) (c := c) tl tu hRL hRU hlL hlU hb
  simp (decide := true) only [ev, ex9, exA, exB, exD, decide_true, decide_false, Bool.not_true, Bool.not_false, not_true, not_false_iff, eq_self, List.length_map, if_true, if_false, Bool.false_eq_true, r_table_between_eq, c_table_between, tl.rd, tu.rd, items_tbz, e, sumM_at (rdL_lst hr), sumM_at (rdL_lst hc), hne]
theorem zsub_len {xs ys : List Int} {n : Nat} (hx : xs.length = n) (hy : ys.length = n) : ((xs.zip ys).map fun p => p.1 - p.2).length = n := by rw [List.length_map, List.length_zip, hx, hy, Nat.min_self]
theorem zsub_at {xs ys : List Int} {n i : Nat} (hx : xs.length = n) (hy : ys.length = n) (hi : i < n) : ((xs.zip ys).map fun p => p.1 - p.2).getD i 0 = xs.getD i 0 - ys.getD i 0 := by
  have h : (xs.zip ys)[i]? = some (xs.getD i 0, ys.getD i 0) := List.getElem?_zip_eq_some.mpr ⟨getD_some (by omega), getD_some (by omega)⟩
  rw [List.getD_eq_getElem?_getD, List.getElem?_map, h]; rfl
theorem between_spec {S : Sto} {r c l u h w : Nat} {rows cols : List Int} {PL PU : Rws} (hr : S[r]? = some (.lst (rows.map V.int))) (hc : S[c]? = some (.lst (cols.map V.int))) (rl : rows.length = h) (cw : cols.length = w) (tl : Tb S l PL) (tu : Tb S u PU) (hRL : Rect w (rowsOf PL)) (hRU : Rect w (rowsOf PU)) (hlL : PL.length = h) (hlU : PU.length = h) (h1 : 1 ≤ h) (h8 : h ≤ 1000) (w1 : 1 ≤ w) (w8 : w ≤ 1000)
    (hb : ∀ i j, i < h → j < w → cl (rowsOf PL) i j ≤ cl (rowsOf PU) i j) (hs : rows.sum = cols.sum) :
    ∃ (S' : Sto) (tp : Nat), r_table_between [.ref r, .ref c, .ref l, .ref u] S = .ok (.ref tp) S' ∧ Up [] S S' ∧ ((∃ (q : Nat) (Q : Rws), S'[tp]? = some (.tup [.str (PySem.Str.ofString "table"), .ref q]) ∧ Btw S' S.length q Q (fun i => rows.getD i 0) (fun j => cols.getD j 0) (rowsOf PL) (rowsOf PU) h w) ∨
      ∃ (na nb : Nat) (A B : List Nat), CutS S' S.length tp na nb A B ∧ CutI A B (fun i => rows.getD i 0) (fun j => cols.getD j 0) (rowsOf PL) (rowsOf PU) h w) := by
  have e := tb_outer_ok (r := r) (c := c) tl tu hRL hRU hlL hlU hb
  have hlr : (rowsOf PL).length = h := by rw [rowsOf, List.length_map, hlL]
  have p0 : PL ≠ [] := fun z => by rw [z] at hlL; simp at hlL; omega
  have sl1 : ((rowsOf PL).map List.sum).length = h := by rw [List.length_map, hlr]
  have sl2 : ((turn (rowsOf PL)).map List.sum).length = w := by
    rw [List.length_map, turn, List.length_map, List.length_range]
    cases PL with
    | nil => exact absurd rfl p0
    | cons p PL => exact rect_of hRL List.mem_cons_self
  have u1 := Up.app [] S [.lst (((rowsOf PL).map List.sum).map V.int)]
  have k1 := snew S (.lst (((rowsOf PL).map List.sum).map V.int))
  simp (decide := true) only [ev, ex9, exA, exB, exD, decide_true, decide_false, Bool.not_true, Bool.not_false, not_true, not_false_iff, eq_self, List.length_map, if_true, if_false, Bool.false_eq_true, r_table_between_eq, c_table_between, tl.rd, tu.rd, items_tbz, e, sumM_at (rdL_lst hr), sumM_at (rdL_lst hc), hs, sums_of_rows_spec tl, rdL_lst (u1.get hr), rdL_lst k1, items_zip]
  rw [compM_pure (α := Int × Int) (fun p => .many [.int p.1, .int p.2]) (fun p => .int (p.1 - p.2)) (chkZ_of (rdL_lst (u1.get hr)) (rdL_lst k1)) (fun p _ => ⟨_, gIT2 _ _ _ _ _ _, by simp (decide := true) only [ev, ex9, exA, exB, exD, decide_true, decide_false, Bool.not_true, Bool.not_false, not_true, not_false_iff, eq_self, List.length_map, if_true, if_false, Bool.false_eq_true, e_table_between_1]⟩)]
  have hm1 : ((rows.zip ((rowsOf PL).map List.sum)).map fun p => V.int (p.1 - p.2)) = ((rows.zip ((rowsOf PL).map List.sum)).map fun p => p.1 - p.2).map V.int := by rw [List.map_map]; rfl
  rw [hm1]
  have rl1 := zsub_len rl sl1
  have ra1 := fun i hi => zsub_at (i := i) rl sl1 hi
  generalize ((rows.zip ((rowsOf PL).map List.sum)).map fun p => p.1 - p.2) = rs at rl1 ra1 ⊢
  generalize S ++ [Ob.lst (((rowsOf PL).map List.sum).map V.int)] = S1 at u1 k1 ⊢
  have v1 := Up.app [] S1 [.lst (rs.map V.int)]
  have q1 := snew S1 (.lst (rs.map V.int))
  have u2 := u1.trans v1
  have n1 : S.length ≤ S1.length := u1.len
  simp (decide := true) only [ev, ex9, exA, exB, exD, decide_true, decide_false, Bool.not_true, Bool.not_false, not_true, not_false_iff, eq_self, List.length_map, if_true, if_false, Bool.false_eq_true]
  generalize S1 ++ [Ob.lst (rs.map V.int)] = S2 at v1 q1 u2 ⊢
  generalize S1.length = rn at n1 q1 ⊢
  have n1' := slt q1
  obtain ⟨S3, b, e3, u3, hbl, k3⟩ := sums_of_columns_spec (tl.up u2) hRL p0 w8
  simp (decide := true) only [ev, ex9, exA, exB, exD, decide_true, decide_false, Bool.not_true, Bool.not_false, not_true, not_false_iff, eq_self, List.length_map, if_true, if_false, Bool.false_eq_true, e3, rdL_lst (u3.get (u2.get hc)), rdL_lst k3, items_zip]
  rw [compM_pure (α := Int × Int) (fun p => .many [.int p.1, .int p.2]) (fun p => .int (p.1 - p.2)) (chkZ_of (rdL_lst (u3.get (u2.get hc))) (rdL_lst k3)) (fun p _ => ⟨_, gIT2 _ _ _ _ _ _, by simp (decide := true) only [ev, ex9, exA, exB, exD, decide_true, decide_false, Bool.not_true, Bool.not_false, not_true, not_false_iff, eq_self, List.length_map, if_true, if_false, Bool.false_eq_true, e_table_between_2]⟩)]
  have hm2 : ((cols.zip ((turn (rowsOf PL)).map List.sum)).map fun p => V.int (p.1 - p.2)) = ((cols.zip ((turn (rowsOf PL)).map List.sum)).map fun p => p.1 - p.2).map V.int := by rw [List.map_map]; rfl
  rw [hm2]
  have wl1 := zsub_len cw sl2
  have wa1 := fun i hi => zsub_at (i := i) cw sl2 hi
  generalize ((cols.zip ((turn (rowsOf PL)).map List.sum)).map fun p => p.1 - p.2) = ws at wl1 wa1 ⊢
  have v4 := Up.app [] S3 [.lst (ws.map V.int)]
  have q4 := snew S3 (.lst (ws.map V.int))
  have u4 := (u2.trans u3).trans v4
  have q14 := v4.get (u3.get q1)
  have n2 : S.length ≤ S3.length := (u2.trans u3).len
  have n12 : rn < S3.length := slt (u3.get q1)
  simp (decide := true) only [ev, ex9, exA, exB, exD, decide_true, decide_false, Bool.not_true, Bool.not_false, not_true, not_false_iff, eq_self, List.length_map, if_true, if_false, Bool.false_eq_true]
  generalize S3 ++ [Ob.lst (ws.map V.int)] = S4 at v4 q4 u4 q14 ⊢
  generalize S3.length = wn at n2 n12 q4 ⊢
  have hw : wide (rowsOf PL) = w := by
    cases PL with
    | nil => exact absurd rfl p0
    | cons p PL => exact rect_of hRL List.mem_cons_self
  have cr : ∀ i, i < h → ((rowsOf PL).map List.sum).getD i 0 = sumR w fun j => cl (rowsOf PL) i j := fun i hi => by
    rw [List.getD_eq_getElem?_getD, List.getElem?_map, List.getElem?_eq_getElem (by omega)]
    have hg : (rowsOf PL).getD i [] = (rowsOf PL)[i]'(by omega) := by rw [List.getD_eq_getElem?_getD, List.getElem?_eq_getElem (by omega)]; rfl
    show ((rowsOf PL)[i]'(by omega)).sum = _
    rw [← hg, rr_sum (row_len hRL (by omega))]; rfl
  have cc : ∀ j, j < w → ((turn (rowsOf PL)).map List.sum).getD j 0 = sumR h fun i => cl (rowsOf PL) i j := fun j hj => by
    rw [turn, List.map_map, hw, List.getD_eq_getElem?_getD, List.getElem?_map, List.getElem?_range hj]
    exact rt_sum hlr
  have hRf : ∀ i, i < h → rows.getD i 0 = rs.getD i 0 + sumR w fun j => cl (rowsOf PL) i j := fun i hi => by rw [ra1 i hi, cr i hi]; omega
  have hCf : ∀ j, j < w → cols.getD j 0 = ws.getD j 0 + sumR h fun i => cl (rowsOf PL) i j := fun j hj => by rw [wa1 j hj, cc j hj]; omega
  have hsum : sumR h (fun i => rows.getD i 0) = sumR w fun j => cols.getD j 0 := by rw [← rr_sum rl, ← rr_sum cw]; exact hs
  obtain ⟨S5, v, e5, u5, hh⟩ := cut_below_spec (Rf := fun i => rows.getD i 0) (Cf := fun j => cols.getD j 0) (lo := rowsOf PL) (hi := rowsOf PU) q14 q4 rl1 wl1 h8 w8 hsum hRf hCf
  have u05 := u4.trans u5
  rcases hh with ⟨rfl, p1, p2⟩ | ⟨tp, na, nb, A, B, rfl, hcs, hci⟩
  · have lt5 : ∀ {n : Nat}, n < S.length → n ≠ rn ∧ n ≠ wn := fun hn => by omega
    have nn : ∀ n ∈ [rn, wn], S.length ≤ n := fun n hn => by
      rcases List.mem_cons.mp hn with e | hn
      · omega
      · rw [List.mem_singleton.mp hn]; exact n2
    obtain ⟨S6, tp, e6, u6, h6⟩ := filled_up_spec (Rf := fun i => rows.getD i 0) (Cf := fun j => cols.getD j 0) (u5.get q14) (u5.get q4) (tl.up u05) (tu.up u05) hRL hRU hlL hlU h8 w8 w1 (fun n hn => by
      have hn := nn n hn
      have a1 := tl.lt
      have a2 := tu.lt
      refine ⟨by omega, by omega, fun hm => ?_, fun hm => ?_⟩
      · obtain ⟨p, hp, e⟩ := List.mem_map.mp hm
        have := tl.ltr hp
        omega
      · obtain ⟨p, hp, e⟩ := List.mem_map.mp hm
        have := tu.ltr hp
        omega) (by omega) hsum ⟨rl1, wl1, fun i j hi hj => ⟨Int.le_refl _, hb i j hi hj⟩, fun i hi => (hRf i hi).symm, fun j hj => (hCf j hj).symm, p1, p2⟩
    simp (decide := true) only [ev, ex9, exA, exB, exD, decide_true, decide_false, Bool.not_true, Bool.not_false, not_true, not_false_iff, eq_self, List.length_map, if_true, if_false, Bool.false_eq_true, e5, isNM_non, e6]
    refine ⟨S6, tp, rfl, u05.new' u6 nn, ?_⟩
    have l05 := u05.len
    rcases h6 with ⟨q, Q, k6, B6⟩ | ⟨na, nb, A, B, hcs, hci⟩
    · exact .inl ⟨q, Q, k6, B6.tb, B6.nod, fun p hp => Nat.le_trans l05 (B6.new p hp), Nat.le_trans l05 B6.newc, B6.len, B6.rect, B6.bd, B6.rs, B6.cs⟩
    · exact .inr ⟨na, nb, A, B, ⟨hcs.1, hcs.2.1, hcs.2.2.1, Nat.le_trans l05 hcs.2.2.2.1, hcs.2.2.2.2⟩, hci⟩
  · simp (decide := true) only [ev, ex9, exA, exB, exD, decide_true, decide_false, Bool.not_true, Bool.not_false, not_true, not_false_iff, eq_self, List.length_map, if_true, if_false, Bool.false_eq_true, e5, isNM_ref]
    exact ⟨S5, tp, rfl, u05, .inr ⟨na, nb, A, B, ⟨hcs.1, hcs.2.1, hcs.2.2.1, Nat.le_trans u4.len hcs.2.2.2.1, hcs.2.2.2.2⟩, hci⟩⟩

/-! fate_of -/
structure OnesOf (X : List (List Int)) (Rf Cf : Nat → Int) (h w : Nat) : Prop where
  len : X.length = h
  rect : Rect w X
  ones : Ones X
  rs : ∀ i, i < h → sumR w (fun j => cl X i j) = Rf i
  cs : ∀ j, j < w → sumR h (fun i => cl X i j) = Cf j
def fullT (h w : Nat) (v : Int) : List (List Int) := (List.range h).map fun _ => (List.range w).map fun _ => v
theorem fullT_rect (h w : Nat) (v : Int) : Rect w (fullT h w v) := fun r hr => by
  obtain ⟨_, _, rfl⟩ := List.mem_map.mp hr
  simp
theorem fullT_len (h w : Nat) (v : Int) : (fullT h w v).length = h := by simp [fullT]
theorem cl_fullT {h w i j : Nat} {v : Int} (hi : i < h) (hj : j < w) : cl (fullT h w v) i j = v := by
  unfold cl fullT
  rw [range_getD hi, range_getD hj]
/-- the table of one number but for one cell -/
def cellT (h w i j : Nat) (v x : Int) : List (List Int) := setc (fullT h w v) i j x
theorem cl_cellT {h w i0 j0 i j : Nat} {v x : Int} (hi0 : i0 < h) (hj0 : j0 < w) (hi : i < h) (hj : j < w) : cl (cellT h w i0 j0 v x) i j = if i0 = i ∧ j0 = j then x else v := by
  unfold cellT
  rw [cl_setc (fullT_rect h w v) (by rw [fullT_len]; exact hi0) hj0, cl_fullT hi hj]
theorem one_changed_spec {S : Sto} {r c ce h w i j : Nat} {rows cols : List Int} {v x : Int} (hr : S[r]? = some (.lst (rows.map V.int))) (hc : S[c]? = some (.lst (cols.map V.int))) (rl : rows.length = h) (cw : cols.length = w) (hce : S[ce]? = some (.tup [.int (i : Int), .int (j : Int)])) (hi : i < h) (hj : j < w) (h8 : h ≤ 1000) (w8 : w ≤ 1000) :
    ∃ (S' : Sto) (b : Nat) (P : Rws), r_one_changed [.ref r, .ref c, .ref ce, .int v, .int x] S = .ok (.ref b) S' ∧ Up [] S S' ∧ S.length ≤ b ∧ Tb S' b P ∧ P.length = h ∧ rowsOf P = cellT h w i j v x := by
  have lr : lenM [.ref r] S = .ok (.int (h : Int)) S := by rw [lenM_at (rdLT_lst hr), List.length_map, rl]
  simp (decide := true) only [ev, ex9, exA, exB, exD, decide_true, decide_false, Bool.not_true, Bool.not_false, not_true, not_false_iff, eq_self, List.length_map, if_true, if_false, Bool.false_eq_true, r_one_changed_eq, c_one_changed, lr]
  rw [rng1_ok (by omega), items_rng, Int.toNat_natCast]
  simp (decide := true) only [ev, ex9, exA, exB, exD, decide_true, decide_false, Bool.not_true, Bool.not_false, not_true, not_false_iff, eq_self, List.length_map, if_true, if_false, Bool.false_eq_true]
  obtain ⟨P, S1, e1, u1, hP, f1⟩ := compM_tbl (S0 := S) (xs := List.range h) (chk := chkY) (tg := gI1 7) (te := e_one_changed_1) (σ := [some (.ref r), some (.ref c), some (.ref ce), some (.int v), some (.int x), none, none, none]) (oneR 0) (fun _ => (List.range w).map fun _ => v) (fun _ _ => rfl) (fun k hk S' p => ⟨_, gI1_one _ _ _ _, by
      have lc : lenM [.ref c] S' = .ok (.int (w : Int)) S' := by rw [lenM_at (rdLT_lst (p.get hc)), List.length_map, cw]
      simp (decide := true) only [ev, ex9, exA, exB, exD, decide_true, decide_false, Bool.not_true, Bool.not_false, not_true, not_false_iff, eq_self, List.length_map, if_true, if_false, Bool.false_eq_true, e_one_changed_1, lc]
      rw [rng1_ok (by omega), items_rng, Int.toNat_natCast]
      simp (decide := true) only [ev, ex9, exA, exB, exD, decide_true, decide_false, Bool.not_true, Bool.not_false, not_true, not_false_iff, eq_self, List.length_map, if_true, if_false, Bool.false_eq_true]
      rw [compM_pure (α := Nat) (oneR 0) (fun _ => .int v) rfl (fun x _ => ⟨_, gI1_one _ _ _ _, by simp (decide := true) only [ev, ex9, exA, exB, exD, decide_true, decide_false, Bool.not_true, Bool.not_false, not_true, not_false_iff, eq_self, List.length_map, if_true, if_false, Bool.false_eq_true]⟩)]
      simp (decide := true) only [ev, ex9, exA, exB, exD, decide_true, decide_false, Bool.not_true, Bool.not_false, not_true, not_false_iff, eq_self, List.length_map, if_true, if_false, Bool.false_eq_true, Re_ok]
      exact ⟨Up.app _ _ _, _, rfl, Nat.le_refl _, by rw [List.map_map]; exact snew _ _⟩⟩) S (Up.refl _ _)
  have n2 := snew S1 (.lst (P.map fun p => V.ref p.1))
  have u2 := Up.app [] S1 [.lst (P.map fun p => V.ref p.1)]
  have f2 := f1.up u2
  have t2 := f2.tb n2
  have u02 := u1.trans u2
  have l1 := u1.len
  have hPT : rowsOf P = fullT h w v := hP
  have hPl : P.length = h := by rw [← rows_len, hPT, fullT_len]
  simp (decide := true) only [ev, ex9, exA, exB, exD, decide_true, decide_false, Bool.not_true, Bool.not_false, not_true, not_false_iff, eq_self, List.length_map, if_true, if_false, Bool.false_eq_true, e1]
  generalize S1 ++ [Ob.lst (P.map fun p => V.ref p.1)] = S2 at n2 u2 f2 t2 u02 ⊢
  generalize S1.length = b at n2 t2 l1 ⊢
  have k2 := u02.get hce
  have x0 : ixQ (.ref ce) (.int 0) S2 = .ok (.int (i : Int)) S2 := ixQ_at (k := 0) (rdLT_tup k2) rfl
  have x1 : ixQ (.ref ce) (.int 1) S2 = .ok (.int (j : Int)) S2 := ixQ_at (k := 1) (rdLT_tup k2) rfl
  obtain ⟨nm, hm, y1, _, _, st⟩ := cell_at (i := (i : Int)) (j := (j : Int)) t2 f2.nod (by rw [hPT]; exact fullT_rect h w v) (by omega) (by omega) (by omega) (by omega)
  obtain ⟨S3, Q, e3, u3, t3, n3, q3⟩ := st x
  rw [Int.toNat_natCast, Int.toNat_natCast, hPT] at q3
  simp (decide := true) only [ev, ex9, exA, exB, exD, decide_true, decide_false, Bool.not_true, Bool.not_false, not_true, not_false_iff, eq_self, List.length_map, if_true, if_false, Bool.false_eq_true, x0, y1, x1, e3]
  refine ⟨S3, b, Q, rfl, u02.new' u3 (fun m hm => ?_), l1, t3, by have := congrArg List.length n3; simpa [hPl] using this, q3⟩
  obtain ⟨p, hp, e⟩ := List.mem_map.mp hm
  rw [← e]; exact f2.new p hp
theorem ones_cl {X : List (List Int)} {h w : Nat} (hl : X.length = h) (hR : Rect w X) (hb : ∀ i j, i < h → j < w → 0 ≤ cl X i j ∧ cl X i j ≤ 1) : Ones X := fun r hr x hx => by
  obtain ⟨i, hi⟩ := List.mem_iff_getElem?.mp hr
  obtain ⟨j, hj⟩ := List.mem_iff_getElem?.mp hx
  have hil := (List.getElem?_eq_some_iff.mp hi).1
  have hjl := (List.getElem?_eq_some_iff.mp hj).1
  have hw := hR r hr
  have := hb i j (by omega) (by omega)
  have e : cl X i j = x := by
    unfold cl
    rw [show X.getD i [] = r by rw [List.getD_eq_getElem?_getD, hi]; rfl, List.getD_eq_getElem?_getD, hj]; rfl
  rw [e] at this
  omega
theorem OnesOf.sums {X : List (List Int)} {rows cols : List Int} {h w : Nat} (o : OnesOf X (fun i => rows.getD i 0) (fun j => cols.getD j 0) h w) (rl : rows.length = h) (cw : cols.length = w) : rows.sum = cols.sum := by
  rw [rr_sum rl, rr_sum cw, ← sumR_congr fun i hi => o.rs i hi, ← sumR_congr (n := w) fun j hj => o.cs j hj, sumR_swap]
def lo1 (h w i j : Nat) := cellT h w i j 0 1
def hi1 (h w i j : Nat) := cellT h w i j 1 1
def lo0 (h w i j : Nat) := cellT h w i j 0 0
def hi0 (h w i j : Nat) := cellT h w i j 1 0
section
variable {h w i j : Nat} {Rf Cf : Nat → Int} (hi : i < h) (hj : j < w)
include hi hj
theorem OnesOf.in1 {X : List (List Int)} (o : OnesOf X Rf Cf h w) (e : cl X i j = 1) : ∀ a b, a < h → b < w → cl (lo1 h w i j) a b ≤ cl X a b ∧ cl X a b ≤ cl (hi1 h w i j) a b := fun a b ha hb => by
  unfold lo1 hi1
  rw [cl_cellT hi hj ha hb, cl_cellT hi hj ha hb]
  have := o.ones.cl (i := a) (j := b)
  by_cases x : i = a ∧ j = b
  · rw [if_pos x, if_pos x, ← x.1, ← x.2, e]; omega
  · rw [if_neg x, if_neg x]; omega
theorem OnesOf.in0 {X : List (List Int)} (o : OnesOf X Rf Cf h w) (e : cl X i j = 0) : ∀ a b, a < h → b < w → cl (lo0 h w i j) a b ≤ cl X a b ∧ cl X a b ≤ cl (hi0 h w i j) a b := fun a b ha hb => by
  unfold lo0 hi0
  rw [cl_cellT hi hj ha hb, cl_cellT hi hj ha hb]
  have := o.ones.cl (i := a) (j := b)
  by_cases x : i = a ∧ j = b
  · rw [if_pos x, if_pos x, ← x.1, ← x.2, e]; omega
  · rw [if_neg x, if_neg x]; omega
theorem Btw.of1 {S : Sto} {n0 c : Nat} {Q : Rws} (B : Btw S n0 c Q Rf Cf (lo1 h w i j) (hi1 h w i j) h w) : OnesOf (rowsOf Q) Rf Cf h w ∧ cl (rowsOf Q) i j = 1 := by
  have hl : (rowsOf Q).length = h := by rw [rows_len, B.len]
  have k : ∀ a b, a < h → b < w → 0 ≤ cl (rowsOf Q) a b ∧ cl (rowsOf Q) a b ≤ 1 := fun a b ha hb => by
    have := B.bd a b ha hb
    unfold lo1 hi1 at this
    rw [cl_cellT hi hj ha hb, cl_cellT hi hj ha hb] at this
    by_cases x : i = a ∧ j = b
    · rw [if_pos x, if_pos x] at this; omega
    · rw [if_neg x, if_neg x] at this; omega
  refine ⟨⟨hl, B.rect, ones_cl hl B.rect k, B.rs, B.cs⟩, ?_⟩
  have := B.bd i j hi hj
  unfold lo1 hi1 at this
  rw [cl_cellT hi hj hi hj, cl_cellT hi hj hi hj, if_pos ⟨rfl, rfl⟩, if_pos ⟨rfl, rfl⟩] at this
  omega
theorem Btw.of0 {S : Sto} {n0 c : Nat} {Q : Rws} (B : Btw S n0 c Q Rf Cf (lo0 h w i j) (hi0 h w i j) h w) : OnesOf (rowsOf Q) Rf Cf h w ∧ cl (rowsOf Q) i j = 0 := by
  have hl : (rowsOf Q).length = h := by rw [rows_len, B.len]
  have k : ∀ a b, a < h → b < w → 0 ≤ cl (rowsOf Q) a b ∧ cl (rowsOf Q) a b ≤ 1 := fun a b ha hb => by
    have := B.bd a b ha hb
    unfold lo0 hi0 at this
    rw [cl_cellT hi hj ha hb, cl_cellT hi hj ha hb] at this
    by_cases x : i = a ∧ j = b
    · rw [if_pos x, if_pos x] at this; omega
    · rw [if_neg x, if_neg x] at this; omega
  refine ⟨⟨hl, B.rect, ones_cl hl B.rect k, B.rs, B.cs⟩, ?_⟩
  have := B.bd i j hi hj
  unfold lo0 hi0 at this
  rw [cl_cellT hi hj hi hj, cl_cellT hi hj hi hj, if_pos ⟨rfl, rfl⟩, if_pos ⟨rfl, rfl⟩] at this
  omega
end
/-- a cut's two lists behind a word -/
def CutW (S : Sto) (n0 tp na nb : Nat) (A B : List Nat) (x : String) : Prop := S[tp]? = some (.tup [.str (PySem.Str.ofString x), .ref na, .ref nb]) ∧ S[na]? = some (.lst (A.map fun (k : Nat) => V.int k)) ∧ S[nb]? = some (.lst (B.map fun (k : Nat) => V.int k)) ∧ n0 ≤ na ∧ na < nb
inductive Fate (S : Sto) (n0 tp : Nat) (Rf Cf : Nat → Int) (h w i j : Nat) : Prop
  | free (q0 q1 : Nat) (Q0 Q1 : Rws) (m : Nat) (k : S[tp]? = some (.tup [.str (PySem.Str.ofString "free"), .ref q0, .ref q1])) (B0 : Btw S m q0 Q0 Rf Cf (lo0 h w i j) (hi0 h w i j) h w) (B1 : Btw S n0 q1 Q1 Rf Cf (lo1 h w i j) (hi1 h w i j) h w) (hn : n0 ≤ m) (hq : q1 < m) (hQ : ∀ p ∈ Q1, p.1 < m)
  | zero (na nb : Nat) (A B : List Nat) (k : CutW S n0 tp na nb A B "zero") (c : CutI A B Rf Cf (lo1 h w i j) (hi1 h w i j) h w) (X : List (List Int)) (o : OnesOf X Rf Cf h w)
  | one (na nb : Nat) (A B : List Nat) (k : CutW S n0 tp na nb A B "one") (c : CutI A B Rf Cf (lo0 h w i j) (hi0 h w i j) h w) (X : List (List Int)) (o : OnesOf X Rf Cf h w)
theorem fate_spec {S : Sto} {r c ce h w i j : Nat} {rows cols : List Int} (hr : S[r]? = some (.lst (rows.map V.int))) (hc : S[c]? = some (.lst (cols.map V.int))) (rl : rows.length = h) (cw : cols.length = w) (hce : S[ce]? = some (.tup [.int (i : Int), .int (j : Int)])) (hi : i < h) (hj : j < w) (h8 : h ≤ 1000) (w8 : w ≤ 1000) :
    (∃ S', r_fate_of [.ref r, .ref c, .ref ce] S = .exc "NoSums" S' ∧ Up [] S S' ∧ ∀ X, ¬ OnesOf X (fun i => rows.getD i 0) (fun j => cols.getD j 0) h w) ∨
    ∃ (S' : Sto) (tp : Nat), r_fate_of [.ref r, .ref c, .ref ce] S = .ok (.ref tp) S' ∧ Up [] S S' ∧ S.length ≤ tp ∧ Fate S' S.length tp (fun i => rows.getD i 0) (fun j => cols.getD j 0) h w i j := by
  have x0 : ixQ (.ref ce) (.int 0) S = .ok (.int (i : Int)) S := ixQ_at (k := 0) (rdLT_tup hce) rfl
  have x1 : ixQ (.ref ce) (.int 1) S = .ok (.int (j : Int)) S := ixQ_at (k := 1) (rdLT_tup hce) rfl
  have lr : lenM [.ref r] S = .ok (.int (h : Int)) S := by rw [lenM_at (rdLT_lst hr), List.length_map, rl]
  have lc : lenM [.ref c] S = .ok (.int (w : Int)) S := by rw [lenM_at (rdLT_lst hc), List.length_map, cw]
  have g1 : (0 : Int) ≤ (i : Int) := by omega
  have g2 : (i : Int) < (h : Int) := by omega
  have g3 : (0 : Int) ≤ (j : Int) := by omega
  have g4 : (j : Int) < (w : Int) := by omega
  obtain ⟨S1, b1, P1, e1, u1, l1, t1, p1, q1⟩ := one_changed_spec (v := 0) (x := 0) hr hc rl cw hce hi hj h8 w8
  obtain ⟨S2, b2, P2, e2, u2, l2, t2, p2, q2⟩ := one_changed_spec (v := 1) (x := 1) (u1.get hr) (u1.get hc) rl cw (u1.get hce) hi hj h8 w8
  have u02 := u1.trans u2
  obtain ⟨S3, b3, P3, e3, u3, l3, t3, p3, q3⟩ := one_changed_spec (v := 0) (x := 1) (u02.get hr) (u02.get hc) rl cw (u02.get hce) hi hj h8 w8
  have u03 := u02.trans u3
  have bd1 : ∀ a b, a < h → b < w → cl (rowsOf P3) a b ≤ cl (rowsOf P2) a b := fun a b ha hb => by
    rw [q3, q2, cl_cellT hi hj ha hb, cl_cellT hi hj ha hb]
    by_cases x : i = a ∧ j = b
    · rw [if_pos x, if_pos x]; omega
    · rw [if_neg x, if_neg x]; omega
  have RR : ∀ {P : Rws} {v x : Int}, rowsOf P = cellT h w i j v x → Rect w (rowsOf P) := fun {P v x} e => by
    rw [e]; exact setc_rect (fullT_rect h w v) (by rw [fullT_len]; exact hi) _ _
  by_cases hs : rows.sum = cols.sum
  · obtain ⟨S4, tp4, e4, u4, h4⟩ := between_spec (u03.get hr) (u03.get hc) rl cw t3 (t2.up u3) (RR q3) (RR q2) p3 p2 (by omega) h8 (by omega) w8 bd1 hs
    have u04 := u03.trans u4
    obtain ⟨S5, b5, P5, e5, u5, l5, t5, p5, q5⟩ := one_changed_spec (v := 1) (x := 0) (u04.get hr) (u04.get hc) rl cw (u04.get hce) hi hj h8 w8
    have u05 := u04.trans u5
    have t15 := ((t1.up (u2.trans u3)).up u4).up u5
    have bd0 : ∀ a b, a < h → b < w → cl (rowsOf P1) a b ≤ cl (rowsOf P5) a b := fun a b ha hb => by
      rw [q1, q5, cl_cellT hi hj ha hb, cl_cellT hi hj ha hb]
      by_cases x : i = a ∧ j = b
      · rw [if_pos x, if_pos x]; omega
      · rw [if_neg x, if_neg x]; omega
    obtain ⟨S6, tp6, e6, u6, h6⟩ := between_spec (u05.get hr) (u05.get hc) rl cw t15 t5 (RR q1) (RR q5) p1 p5 (by omega) h8 (by omega) w8 bd0 hs
    have u06 := u05.trans u6
    have u46 := u5.trans u6
    rw [q3, q2] at h4
    rw [q1, q5] at h6
    have l03 := u03.len
    have l05 := u05.len
    have l06 := u06.len
    rcases h4 with ⟨qa, Qa, ka, Ba⟩ | ⟨na, nb, A, B, ca, Ca⟩
    · have ka0 : ixQ (.ref tp4) (.int 0) S6 = .ok (.str (PySem.Str.ofString "table")) S6 := ixQ_at (k := 0) (rdLT_tup (u46.get ka)) rfl
      have ka1 : ixQ (.ref tp4) (.int 1) S6 = .ok (.ref qa) S6 := ixQ_at (k := 1) (rdLT_tup (u46.get ka)) rfl
      have Oa := Btw.of1 hi hj Ba
      rcases h6 with ⟨qb, Qb, kb, Bb⟩ | ⟨nc, nd, C, D, cb, Cb⟩
      · have kb0 : ixQ (.ref tp6) (.int 0) S6 = .ok (.str (PySem.Str.ofString "table")) S6 := ixQ_at (k := 0) (rdLT_tup kb) rfl
        have kb1 : ixQ (.ref tp6) (.int 1) S6 = .ok (.ref qb) S6 := ixQ_at (k := 1) (rdLT_tup kb) rfl
        right
        simp (decide := true) only [ev, ex9, exA, exB, exD, decide_true, decide_false, Bool.not_true, Bool.not_false, not_true, not_false_iff, eq_self, List.length_map, if_true, if_false, Bool.false_eq_true, r_fate_of_eq, c_fate_of, x0, x1, lr, lc, g1, g2, g3, g4, e1, e2, e3, e4, e5, e6, ka0, kb0, neW_table, ka1, kb1]
        have v := Up.app [] S6 [.tup [.str (PySem.Str.ofString "free"), .ref qb, .ref qa]]
        refine ⟨_, _, rfl, u06.trans v, by omega, .free qb qa Qb Qa S5.length (snew _ _) ⟨Bb.tb.up v, Bb.nod, Bb.new, Bb.newc, Bb.len, Bb.rect, Bb.bd, Bb.rs, Bb.cs⟩ ⟨(Ba.tb.up u46).up v, Ba.nod, fun p hp => Nat.le_trans l03 (Ba.new p hp), Nat.le_trans l03 Ba.newc, Ba.len, Ba.rect, Ba.bd, Ba.rs, Ba.cs⟩ (by omega) (by have := Ba.tb.lt; have := u5.len; omega) (fun p hp => by have := Ba.tb.ltr hp; have := u5.len; omega)⟩
      · have kb0 : ixQ (.ref tp6) (.int 0) S6 = .ok (.str (PySem.Str.ofString "cut")) S6 := ixQ_at (k := 0) (rdLT_tup cb.1) rfl
        have kb1 : ixQ (.ref tp6) (.int 1) S6 = .ok (.ref nc) S6 := ixQ_at (k := 1) (rdLT_tup cb.1) rfl
        have kb2 : ixQ (.ref tp6) (.int 2) S6 = .ok (.ref nd) S6 := ixQ_at (k := 2) (rdLT_tup cb.1) rfl
        right
        simp (decide := true) only [ev, ex9, exA, exB, exD, decide_true, decide_false, Bool.not_true, Bool.not_false, not_true, not_false_iff, eq_self, List.length_map, if_true, if_false, Bool.false_eq_true, r_fate_of_eq, c_fate_of, x0, x1, lr, lc, g1, g2, g3, g4, e1, e2, e3, e4, e5, e6, ka0, kb0, neW_table, neW_cut_table, ka1, kb1, kb2]
        have v := Up.app [] S6 [.tup [.str (PySem.Str.ofString "one"), .ref nc, .ref nd]]
        exact ⟨_, _, rfl, u06.trans v, by omega, .one nc nd C D ⟨snew _ _, v.get cb.2.1, v.get cb.2.2.1, Nat.le_trans l05 cb.2.2.2.1, cb.2.2.2.2⟩ Cb _ Oa.1⟩
    · have ka0 : ixQ (.ref tp4) (.int 0) S6 = .ok (.str (PySem.Str.ofString "cut")) S6 := ixQ_at (k := 0) (rdLT_tup (u46.get ca.1)) rfl
      have ka1 : ixQ (.ref tp4) (.int 1) S6 = .ok (.ref na) S6 := ixQ_at (k := 1) (rdLT_tup (u46.get ca.1)) rfl
      have ka2 : ixQ (.ref tp4) (.int 2) S6 = .ok (.ref nb) S6 := ixQ_at (k := 2) (rdLT_tup (u46.get ca.1)) rfl
      rcases h6 with ⟨qb, Qb, kb, Bb⟩ | ⟨nc, nd, C, D, cb, Cb⟩
      · have kb0 : ixQ (.ref tp6) (.int 0) S6 = .ok (.str (PySem.Str.ofString "table")) S6 := ixQ_at (k := 0) (rdLT_tup kb) rfl
        have Ob := Btw.of0 hi hj Bb
        right
        simp (decide := true) only [ev, ex9, exA, exB, exD, decide_true, decide_false, Bool.not_true, Bool.not_false, not_true, not_false_iff, eq_self, List.length_map, if_true, if_false, Bool.false_eq_true, r_fate_of_eq, c_fate_of, x0, x1, lr, lc, g1, g2, g3, g4, e1, e2, e3, e4, e5, e6, ka0, kb0, neW_table, neW_cut_table, ka1, ka2]
        have v := Up.app [] S6 [.tup [.str (PySem.Str.ofString "zero"), .ref na, .ref nb]]
        exact ⟨_, _, rfl, u06.trans v, by omega, .zero na nb A B ⟨snew _ _, v.get (u46.get ca.2.1), v.get (u46.get ca.2.2.1), Nat.le_trans l03 ca.2.2.2.1, ca.2.2.2.2⟩ Ca _ Ob.1⟩
      · have kb0 : ixQ (.ref tp6) (.int 0) S6 = .ok (.str (PySem.Str.ofString "cut")) S6 := ixQ_at (k := 0) (rdLT_tup cb.1) rfl
        left
        simp (decide := true) only [ev, ex9, exA, exB, exD, decide_true, decide_false, Bool.not_true, Bool.not_false, not_true, not_false_iff, eq_self, List.length_map, if_true, if_false, Bool.false_eq_true, r_fate_of_eq, c_fate_of, x0, x1, lr, lc, g1, g2, g3, g4, e1, e2, e3, e4, e5, e6, ka0, kb0, neW_cut_table]
        refine ⟨_, rfl, u06, fun X o => ?_⟩
        rcases o.ones.cl (i := i) (j := j) with e | e
        · exact cut_none o.rs o.cs (OnesOf.in0 hi hj o e) Cb.ok
        · exact cut_none o.rs o.cs (OnesOf.in1 hi hj o e) Ca.ok
  · have e4 := between_unlike (u03.get hr) (u03.get hc) t3 (t2.up u3) (RR q3) (RR q2) p3 p2 bd1 hs
    have v4 := Up.app [] S3 [.tup [.str (PySem.Str.ofString "unlike"), .int rows.sum, .int cols.sum]]
    have n4 := snew S3 (.tup [.str (PySem.Str.ofString "unlike"), .int rows.sum, .int cols.sum])
    have u04 := u03.trans v4
    obtain ⟨S5, b5, P5, e5, u5, l5, t5, p5, q5⟩ := one_changed_spec (v := 1) (x := 0) (u04.get hr) (u04.get hc) rl cw (u04.get hce) hi hj h8 w8
    have u05 := u04.trans u5
    have t15 := ((t1.up (u2.trans u3)).up v4).up u5
    have bd0 : ∀ a b, a < h → b < w → cl (rowsOf P1) a b ≤ cl (rowsOf P5) a b := fun a b ha hb => by
      rw [q1, q5, cl_cellT hi hj ha hb, cl_cellT hi hj ha hb]
      by_cases x : i = a ∧ j = b
      · rw [if_pos x, if_pos x]; omega
      · rw [if_neg x, if_neg x]; omega
    have e6 := between_unlike (u05.get hr) (u05.get hc) t15 t5 (RR q1) (RR q5) p1 p5 bd0 hs
    have v6 := Up.app [] S5 [.tup [.str (PySem.Str.ofString "unlike"), .int rows.sum, .int cols.sum]]
    have n6 := snew S5 (.tup [.str (PySem.Str.ofString "unlike"), .int rows.sum, .int cols.sum])
    have ka0 := ixQ_at (k := 0) (v := .str (PySem.Str.ofString "unlike")) (rdLT_tup (v6.get (u5.get n4))) rfl
    have kb0 := ixQ_at (k := 0) (v := .str (PySem.Str.ofString "unlike")) (rdLT_tup n6) rfl
    have z0 : ((0 : Nat) : Int) = 0 := rfl
    rw [z0] at ka0 kb0
    left
    simp (decide := true) only [ev, ex9, exA, exB, exD, decide_true, decide_false, Bool.not_true, Bool.not_false, not_true, not_false_iff, eq_self, List.length_map, if_true, if_false, Bool.false_eq_true, r_fate_of_eq, c_fate_of, x0, x1, lr, lc, g1, g2, g3, g4, e1, e2, e3, e4, e5, e6, ka0, kb0, neW_unlike_table]
    exact ⟨_, rfl, u05.trans v6, fun X o => hs (o.sums rl cw)⟩
/-- which word the fate is, told by the tables -/
theorem Fate.word {S : Sto} {n0 tp h w i j : Nat} {Rf Cf : Nat → Int} (f : Fate S n0 tp Rf Cf h w i j) (hi : i < h) (hj : j < w) :
    (ixQ (.ref tp) (.int 0) S = .ok (.str (PySem.Str.ofString "free")) S ∧ (∃ X, OnesOf X Rf Cf h w ∧ cl X i j = 0) ∧ ∃ X, OnesOf X Rf Cf h w ∧ cl X i j = 1) ∨
    (ixQ (.ref tp) (.int 0) S = .ok (.str (PySem.Str.ofString "zero")) S ∧ (∃ X, OnesOf X Rf Cf h w) ∧ ∀ X, OnesOf X Rf Cf h w → cl X i j = 0) ∨
    (ixQ (.ref tp) (.int 0) S = .ok (.str (PySem.Str.ofString "one")) S ∧ (∃ X, OnesOf X Rf Cf h w) ∧ ∀ X, OnesOf X Rf Cf h w → cl X i j = 1) := by
  cases f with
  | free q0 q1 Q0 Q1 m k B0 B1 hn hq hQ => exact .inl ⟨ixQ_at (k := 0) (rdLT_tup k) rfl, ⟨_, B0.of0 hi hj⟩, ⟨_, B1.of1 hi hj⟩⟩
  | zero na nb A B k c X o =>
    refine .inr (.inl ⟨ixQ_at (k := 0) (rdLT_tup k.1) rfl, ⟨X, o⟩, fun Y oy => ?_⟩)
    rcases oy.ones.cl (i := i) (j := j) with e | e
    · exact e
    · exact absurd c.ok (cut_none oy.rs oy.cs (OnesOf.in1 hi hj oy e))
  | one na nb A B k c X o =>
    refine .inr (.inr ⟨ixQ_at (k := 0) (rdLT_tup k.1) rfl, ⟨X, o⟩, fun Y oy => ?_⟩)
    rcases oy.ones.cl (i := i) (j := j) with e | e
    · exact absurd c.ok (cut_none oy.rs oy.cs (OnesOf.in0 hi hj oy e))
    · exact e

/-! the fate's word -/
def WordOf (x : String) (Rf Cf : Nat → Int) (h w i j : Nat) : Prop :=
  (x = "free" ∧ (∃ X, OnesOf X Rf Cf h w ∧ cl X i j = 0) ∧ ∃ X, OnesOf X Rf Cf h w ∧ cl X i j = 1) ∨
  (x = "zero" ∧ (∃ X, OnesOf X Rf Cf h w) ∧ ∀ X, OnesOf X Rf Cf h w → cl X i j = 0) ∨
  (x = "one" ∧ (∃ X, OnesOf X Rf Cf h w) ∧ ∀ X, OnesOf X Rf Cf h w → cl X i j = 1)
theorem Fate.wordOf {S : Sto} {n0 tp h w i j : Nat} {Rf Cf : Nat → Int} (f : Fate S n0 tp Rf Cf h w i j) (hi : i < h) (hj : j < w) : ∃ (x : String) (y z : V), S[tp]? = some (.tup [.str (PySem.Str.ofString x), y, z]) ∧ WordOf x Rf Cf h w i j ∧ (x = "free" → ∃ (q0 q1 : Nat) (Q0 Q1 : Rws), y = .ref q0 ∧ z = .ref q1 ∧ Tb S q0 Q0 ∧ Tb S q1 Q1 ∧ OnesOf (rowsOf Q0) Rf Cf h w ∧ OnesOf (rowsOf Q1) Rf Cf h w ∧ cl (rowsOf Q0) i j = 0 ∧ cl (rowsOf Q1) i j = 1) := by
  have g := f.word hi hj
  cases f with
  | free q0 q1 Q0 Q1 m k B0 B1 hn hq hQ => exact ⟨"free", _, _, k, .inl ⟨rfl, ⟨_, B0.of0 hi hj⟩, ⟨_, B1.of1 hi hj⟩⟩, fun _ => ⟨q0, q1, Q0, Q1, rfl, rfl, B0.tb, B1.tb, (B0.of0 hi hj).1, (B1.of1 hi hj).1, (B0.of0 hi hj).2, (B1.of1 hi hj).2⟩⟩
  | zero na nb A B k c X o =>
    refine ⟨"zero", _, _, k.1, .inr (.inl ⟨rfl, ⟨X, o⟩, fun Y oy => ?_⟩), fun e => absurd e (by decide)⟩
    rcases oy.ones.cl (i := i) (j := j) with e | e
    · exact e
    · exact absurd c.ok (cut_none oy.rs oy.cs (OnesOf.in1 hi hj oy e))
  | one na nb A B k c X o =>
    refine ⟨"one", _, _, k.1, .inr (.inr ⟨rfl, ⟨X, o⟩, fun Y oy => ?_⟩), fun e => absurd e (by decide)⟩
    rcases oy.ones.cl (i := i) (j := j) with e | e
    · exact absurd c.ok (cut_none oy.rs oy.cs (OnesOf.in0 hi hj oy e))
    · exact e
theorem WordOf.uniq {x y : String} {h w i j : Nat} {Rf Cf : Nat → Int} (a : WordOf x Rf Cf h w i j) (b : WordOf y Rf Cf h w i j) : x = y := by
  rcases a with ⟨rfl, ⟨X, ox, ex⟩, Y, oy, ey⟩ | ⟨rfl, ⟨X, ox⟩, ax⟩ | ⟨rfl, ⟨X, ox⟩, ax⟩ <;> rcases b with ⟨rfl, ⟨X', ox', ex'⟩, Y', oy', ey'⟩ | ⟨rfl, ⟨X', ox'⟩, ax'⟩ | ⟨rfl, ⟨X', ox'⟩, ax'⟩
  · rfl
  · have := ax' Y oy; omega
  · have := ax' X ox; omega
  · have := ax Y' oy'; omega
  · rfl
  · have := ax X ox; have := ax' X ox; omega
  · have := ax X' ox'; omega
  · have := ax X ox; have := ax' X ox; omega
  · rfl

/-! tables by one row more -/
theorem cl_snoc_lt {T : List (List Int)} {r : List Int} {i j : Nat} (h : i < T.length) : cl (T ++ [r]) i j = cl T i j := by
  have e : (T ++ [r]).getD i [] = T.getD i [] := by rw [List.getD_eq_getElem?_getD (l := T ++ [r]), List.getD_eq_getElem?_getD (l := T), List.getElem?_append_left h]
  unfold cl
  rw [e]
theorem cl_snoc_eq {T : List (List Int)} {r : List Int} {j : Nat} : cl (T ++ [r]) T.length j = r.getD j 0 := by
  have e : (T ++ [r]).getD T.length [] = r := by rw [List.getD_eq_getElem?_getD (l := T ++ [r]), List.getElem?_append_right (Nat.le_refl _), Nat.sub_self]; rfl
  unfold cl
  rw [e]
theorem rect_snoc {T : List (List Int)} {r : List Int} {w : Nat} (h : Rect w T) (hr : r.length = w) : Rect w (T ++ [r]) := fun x hx => by
  rcases List.mem_append.mp hx with hx | hx
  · exact h x hx
  · rw [List.mem_singleton.mp hx]; exact hr
theorem rows_snoc (P : Rws) (p : Nat × List Int) : rowsOf (P ++ [p]) = rowsOf P ++ [p.2] := by rw [rowsOf, List.map_append]; rfl
theorem getI_D' {xs : List Int} {i : Nat} (h : i < xs.length) : (xs.map V.int)[i]? = some (.int (xs.getD i 0)) := getI_D h

/-! _law_sums -/
theorem law_sums_spec {S : Sto} {a h w : Nat} {P : Rws} (t : Tb S a P) (hR : Rect w (rowsOf P)) (hl : P.length = h) (h1 : 1 ≤ h) (w8 : w ≤ 1000) :
    ∃ (S' : Sto) (b r c : Nat), r__law_sums [.ref a] S = .ok (.ref b) S' ∧ Up [] S S' ∧ S.length ≤ b ∧ Tb S' b [(r, (rowsOf P).map List.sum), (c, (turn (rowsOf P)).map List.sum)] ∧ Fr S.length S' [(r, (rowsOf P).map List.sum), (c, (turn (rowsOf P)).map List.sum)] := by
  have h0 : P ≠ [] := fun z => by rw [z] at hl; simp at hl; omega
  obtain ⟨p0, P', hP⟩ := List.exists_cons_of_ne_nil h0
  have hw : p0.2.length = w := rect_of hR (by rw [hP]; exact List.mem_cons_self)
  have hwd : wide (rowsOf P) = w := by rw [hP]; exact hw
  have hp0 : P[(0 : Int).toNat]? = some p0 := by rw [hP]; rfl
  have hm : p0 ∈ P := List.mem_of_getElem? hp0
  have u1 := Up.app [] S [.lst []]
  have t1 := t.up u1
  have k1 := snew S (.lst [])
  have ltS := t.lt
  have ltr : ∀ p ∈ P, p.1 < S.length := fun p hp => t.ltr hp
  simp (decide := true) only [ev, ex9, exA, exB, exD, decide_true, decide_false, Bool.not_true, Bool.not_false, not_true, not_false_iff, eq_self, List.length_map, if_true, if_false, Bool.false_eq_true, r__law_sums_eq, c__law_sums, t1.ix (Int.le_refl 0) hp0, lenM_at (t1.rdrT hm), List.length_map, hw]
  generalize S ++ [Ob.lst []] = S1 at u1 t1 k1 ⊢
  rw [rng1_ok (by omega), items_rng, Int.toNat_natCast]
  simp (decide := true) only [ev, ex9, exA, exB, exD, decide_true, decide_false, Bool.not_true, Bool.not_false, not_true, not_false_iff, eq_self, List.length_map, if_true, if_false, Bool.false_eq_true]
  obtain ⟨S2, e2, u2, k2⟩ := forM_at (chk := chkY) (tg := gI1 2) (ws := [2]) (body := b__law_sums_1) (xs := List.range w) (oneR 0) (fun _ => [some (.ref a), some (.ref S.length), none, none])
    (fun i S' => Up [] S S' ∧ S'[S.length]? = some (.lst (((List.range i).map fun k => ((rowsOf P).map fun row => row.getD k 0).sum).map V.int))) (fun _ _ _ => rfl)
    (fun k x S' hx hI => by
      obtain ⟨u, e⟩ := hI
      obtain ⟨hk, rfl⟩ := rng_at hx
      have t2 := t.up u
      have z0 : (0 : Int) + (k : Int) = (k : Int) := by omega
      refine ⟨_, gI1_one _ _ _ _, ?_⟩
      simp (decide := true) only [ev, ex9, exA, exB, exD, decide_true, decide_false, Bool.not_true, Bool.not_false, not_true, not_false_iff, eq_self, List.length_map, if_true, if_false, Bool.false_eq_true, b__law_sums_1, z0, isLs_of (rdL_lst e), t2.rd, items_tb]
      rw [compM_pure (α := Nat × List Int) oneP (fun p => .int (p.2.getD k 0)) (chkL_of t2.rd) (fun x hx => ⟨_, gI1_one _ _ _ _, by
        have hx1 := rect_of hR hx
        have := rix (i := (k : Int)) (t2.row x hx) (by omega) (by omega)
        rw [Int.toNat_natCast] at this
        simp (decide := true) only [ev, ex9, exA, exB, exD, decide_true, decide_false, Bool.not_true, Bool.not_false, not_true, not_false_iff, eq_self, List.length_map, if_true, if_false, Bool.false_eq_true, e__law_sums_1, this]⟩)]
      have v1 := Up.app [] S' [.lst (P.map fun p => V.int (p.2.getD k 0))]
      have s1 := sumM_at (x := .ref S'.length) (ns := P.map fun p => p.2.getD k 0) (rdL_lst (by rw [List.map_map]; exact snew S' (.lst (P.map fun p => V.int (p.2.getD k 0)))))
      simp (decide := true) only [ev, ex9, exA, exB, exD, decide_true, decide_false, Bool.not_true, Bool.not_false, not_true, not_false_iff, eq_self, List.length_map, if_true, if_false, Bool.false_eq_true, s1]
      rw [appM_at (v1.get e) (by rw [List.length_map, List.length_map, List.length_range]; omega)]
      simp (decide := true) only [ev, ex9, exA, exB, exD, decide_true, decide_false, Bool.not_true, Bool.not_false, not_true, not_false_iff, eq_self, List.length_map, if_true, if_false, Bool.false_eq_true, Tn_nx]
      refine ⟨trivial, (u.trans v1).setNew (Nat.le_refl _) _, ?_⟩
      have he : ((rowsOf P).map fun row => row.getD k 0) = P.map fun p => p.2.getD k 0 := by rw [rowsOf, List.map_map]; rfl
      rw [sset_same (v1.get e), List.range_succ, List.map_append, List.map_append, List.map_singleton, List.map_singleton, he]) (S := S1) ⟨u1, k1⟩
  have hcol : ((List.range w).map fun k => ((rowsOf P).map fun row => row.getD k 0).sum) = (turn (rowsOf P)).map List.sum := by rw [turn, hwd, List.map_map]; rfl
  rw [List.length_range, hcol] at k2
  rw [e2]
  have t3 := t.up u2
  simp (decide := true) only [ev, ex9, exA, exB, exD, decide_true, decide_false, Bool.not_true, Bool.not_false, not_true, not_false_iff, eq_self, List.length_map, if_true, if_false, Bool.false_eq_true, t3.rd, items_tb]
  rw [compM_pure (α := Nat × List Int) oneP (fun p => .int p.2.sum) (chkL_of t3.rd) (fun x hx => ⟨_, gI1_one _ _ _ _, by simp (decide := true) only [ev, ex9, exA, exB, exD, decide_true, decide_false, Bool.not_true, Bool.not_false, not_true, not_false_iff, eq_self, List.length_map, if_true, if_false, Bool.false_eq_true, e__law_sums_2, sumM_at (t3.rdr hx)]⟩)]
  have hr : (P.map fun p => V.int p.2.sum) = ((rowsOf P).map List.sum).map V.int := by rw [rowsOf, List.map_map, List.map_map]; rfl
  rw [hr]
  have lt2 := slt k2
  have v3 := Up.app [] S2 [.lst (((rowsOf P).map List.sum).map V.int)]
  have k3 := snew S2 (.lst (((rowsOf P).map List.sum).map V.int))
  have u3 := u2.trans v3
  have k23 := v3.get k2
  simp (decide := true) only [ev, ex9, exA, exB, exD, decide_true, decide_false, Bool.not_true, Bool.not_false, not_true, not_false_iff, eq_self, List.length_map, if_true, if_false, Bool.false_eq_true]
  generalize S2 ++ [Ob.lst (((rowsOf P).map List.sum).map V.int)] = S3 at v3 k3 u3 k23 ⊢
  generalize hrn : S2.length = rn at k3 lt2 ⊢
  have v4 := Up.app [] S3 [.lst [.ref rn, .ref S.length]]
  have l3 := v3.len
  have l2 := u2.len
  have fr : Fr S.length (S3 ++ [.lst [.ref rn, .ref S.length]]) [(rn, (rowsOf P).map List.sum), (S.length, (turn (rowsOf P)).map List.sum)] := ⟨fun p hp => by
    rcases List.mem_cons.mp hp with rfl | hp
    · exact v4.get k3
    · rw [List.mem_singleton.mp hp]; exact v4.get k23, fun p hp => by
    rcases List.mem_cons.mp hp with rfl | hp
    · show S.length ≤ rn; omega
    · rw [List.mem_singleton.mp hp]; exact Nat.le_refl _, by simp; omega⟩
  exact ⟨_, _, rn, S.length, rfl, u3.trans v4, by omega, fr.tb (snew _ _), fr⟩

/-! a table of ones, by a deck -/
theorem shape44_spec (c : Int) (S : Sto) : ∃ h w : Nat, 1 ≤ h ∧ h ≤ 8 ∧ 1 ≤ w ∧ w ≤ 8 ∧ r__law_shape [.int c] S = .ok (.ref S.length) (S ++ [.lst [.int (h : Int), .int (w : Int)]]) := by
  by_cases e : c % 16 = 7
  · have a1 : (1 + c / 16 % 8) = ((1 + c / 16 % 8).toNat : Int) := by omega
    have a2 : (1 + c / 128 % 8) = ((1 + c / 128 % 8).toNat : Int) := by omega
    simp (decide := true) only [ev, ex9, exA, exB, exD, decide_true, decide_false, Bool.not_true, Bool.not_false, not_true, not_false_iff, eq_self, List.length_map, if_true, if_false, Bool.false_eq_true, r__law_shape_eq, c__law_shape, e]
    refine ⟨(1 + c / 16 % 8).toNat, (1 + c / 128 % 8).toNat, by omega, by omega, by omega, by omega, ?_⟩
    rw [← a1, ← a2]
  · have a1 : (1 + c / 16 % 5) = ((1 + c / 16 % 5).toNat : Int) := by omega
    have a2 : (1 + c / 128 % 5) = ((1 + c / 128 % 5).toNat : Int) := by omega
    simp (decide := true) only [ev, ex9, exA, exB, exD, decide_true, decide_false, Bool.not_true, Bool.not_false, not_true, not_false_iff, eq_self, List.length_map, if_true, if_false, Bool.false_eq_true, r__law_shape_eq, c__law_shape, e]
    refine ⟨(1 + c / 16 % 5).toNat, (1 + c / 128 % 5).toNat, by omega, by omega, by omega, by omega, ?_⟩
    rw [← a1, ← a2]
theorem ones_snoc {T : List (List Int)} {r : List Int} (h : Ones T) (hr : ∀ x ∈ r, x = 0 ∨ x = 1) : Ones (T ++ [r]) := fun y hy x hx => by
  rcases List.mem_append.mp hy with hy | hy
  · exact h y hy x hx
  · rw [List.mem_singleton.mp hy] at hx; exact hr x hx
theorem cl_Ones {T : List (List Int)} (h : Ones T) (i j : Nat) : cl T i j = 0 ∨ cl T i j = 1 := h.cl
noncomputable def ones_tail : St → Sto → R Fl := (sSq (sIf (tV (eO neM (eV 4) (eC (.int 1))))
    (sFor (iR1 (aCons (eA lenM (aCons (eV 0) aNil)) aNil)) (gI1 11) [10, 11, 12] b__law_ones_2)
    sNx)
    (sRet (eV 5)))
theorem ones_head : c__law_ones = (sSq (sAs (gU [2, 3]) (eCl 1 r__law_shape (aCons (eO ixM (eV 1) (eC (.int 0))) aNil)))
    (sSq (sSet 4 (eO modM (eO ixM (eV 1) (eC (.int 1))) (eC (.int 4))))
    (sSq (sSet 5 (eLst aNil))
    (sSq (sFor (iR1 (aCons (eV 2) aNil)) (gI1 6) [6, 7, 8] b__law_ones_1)
    (sSq (sIf (tV (eO eqM (eV 4) (eC (.int 2))))
    (sSet 5 (eComp (iEn (eV 5)) (gIT [6, 10]) tYs e__law_ones_3 [6, 10]))
    sNx)
    ones_tail))))) := rfl
theorem ones_tail_spec {S0 S : Sto} {ns : List Int} {d : V} {q h w : Nat} {k : Int} {P : Rws} (u0 : Up [] S0 S) (hs : rdL (.ref 0) S = some (ns.map V.int)) (hS0 : 0 < S0.length) (hl : ns.length ≤ 63) (t : Tb S q P) (f : Fr S0.length S P) (hq : S0.length ≤ q) (hPl : P.length = h) (hR : Rect w (rowsOf P)) (hO : Ones (rowsOf P)) (h1 : 1 ≤ h) (h8 : h ≤ 8) (w1 : 1 ≤ w) (w8 : w ≤ 8) :
    ∃ (Q : Rws) (S' : Sto) (b : Nat), finF (ones_tail [some (.ref 0), some d, some (.int (h : Int)), some (.int (w : Int)), some (.int k), some (.ref q), none, none, none, none, none, none, none] S) = .ok (.ref b) S' ∧ Up [] S0 S' ∧ Tb S' b Q ∧ Fr S0.length S' Q ∧ S0.length ≤ b ∧ Q.length = h ∧ Rect w (rowsOf Q) ∧ Ones (rowsOf Q) := by
  by_cases hk : k = 1
  · simp (decide := true) only [ev, ex9, exA, exB, exD, decide_true, decide_false, Bool.not_true, Bool.not_false, not_true, not_false_iff, eq_self, List.length_map, if_true, if_false, Bool.false_eq_true, ones_tail, hk]
    exact ⟨P, S, q, rfl, u0, t, f, hq, hPl, hR, hO⟩
  · have hln : lenM [.ref 0] S = .ok (.int (ns.length : Int)) S := by rw [lenM_at (rdLT_of hs), List.length_map]
    have h0n : 0 ∉ P.map Prod.fst := fun hm => by
      obtain ⟨p, hp, e⟩ := List.mem_map.mp hm
      have := f.new p hp
      omega
    simp (decide := true) only [ev, ex9, exA, exB, exD, decide_true, decide_false, Bool.not_true, Bool.not_false, not_true, not_false_iff, eq_self, List.length_map, if_true, if_false, Bool.false_eq_true, ones_tail, hk, hln]
    rw [rng1_ok (by omega), items_rng, Int.toNat_natCast]
    simp (decide := true) only [ev, ex9, exA, exB, exD, decide_true, decide_false, Bool.not_true, Bool.not_false, not_true, not_false_iff, eq_self, List.length_map, if_true, if_false, Bool.false_eq_true]
    obtain ⟨S4, e4, u4, Q, hN, hQl, hQR, hQO, t4⟩ := forM_at (chk := chkY) (tg := gI1 11) (ws := [10, 11, 12]) (body := b__law_ones_2) (xs := List.range ns.length) (oneR 0)
      (fun _ => [some (.ref 0), some d, some (.int (h : Int)), some (.int (w : Int)), some (.int k), some (.ref q), none, none, none, none, none, none, none])
      (fun _ S' => Up (P.map Prod.fst) S S' ∧ ∃ Q : Rws, Q.map Prod.fst = P.map Prod.fst ∧ Q.length = h ∧ Rect w (rowsOf Q) ∧ Ones (rowsOf Q) ∧ Tb S' q Q) (fun _ _ _ => rfl)
      (fun i y S' hy hI => by
        obtain ⟨u, Q, hN, hQl, hQR, hQO, tQ⟩ := hI
        obtain ⟨hk, rfl⟩ := rng_at hy
        have z0 : (0 : Int) + (i : Int) = (i : Int) := by omega
        refine ⟨_, gI1_one _ _ _ _, ?_⟩
        have hns := rdL_upM u h0n hs
        have hx := ixQ_int (i := (i : Int)) (rdLT_of hns) (by omega) (getI_D (by omega : (i : Int).toNat < ns.length))
        generalize ns.getD (i : Int).toNat 0 = c at hx
        have hi : (i : Int) % (h : Int) = ((i % h : Nat) : Int) := by simp
        have hj : (i : Int) / (h : Int) % (w : Int) = ((i / h % w : Nat) : Int) := by simp
        have hi1 : i % h < h := Nat.mod_lt _ (by omega)
        have hj1 : i / h % w < w := Nat.mod_lt _ (by omega)
        generalize i % h = a at hi hi1
        generalize i / h % w = b at hj hj1
        have hhh : (0 : Int) < (h : Int) ∧ (h : Int) < 18446744073709551616 := by omega
        have hww : (0 : Int) < (w : Int) := by omega
        obtain ⟨nm, hmN, x1, x2, x3, x4⟩ := cell_at (i := (a : Int)) (j := (b : Int)) tQ (by rw [hN]; exact f.nod) hQR (by omega) (by omega) (by omega) (by omega)
        obtain ⟨S5, Q5, y1, y2, y3, y4, y5⟩ := x4 ((cl (rowsOf Q) (a : Int).toNat (b : Int).toNat + c / 5) % 2)
        simp (decide := true) only [ev, ex9, exA, exB, exD, decide_true, decide_false, Bool.not_true, Bool.not_false, not_true, not_false_iff, eq_self, List.length_map, if_true, if_false, Bool.false_eq_true, b__law_ones_2, z0, hx, modM_pos (i := (i : Int)) hhh.1, fdivM_pos (i := (i : Int)) hhh, modM_pos (i := (i : Int) / (h : Int)) hww, hi, hj, x1, x2, y1, Tn_nx]
        refine ⟨trivial, u.trans (by rw [← hN]; exact y2), Q5, by rw [y4, hN], by rw [← hQl, ← rows_len, y5, setc_len, rows_len], by rw [y5]; exact setc_rect hQR (by rw [rows_len]; omega) _ _, ?_, y3⟩
        rw [y5]
        exact hQO.setc (by omega)) (S := S) ⟨Up.refl _ _, P, rfl, hPl, hR, hO, t⟩
    rw [e4]
    simp (decide := true) only [ev, ex9, exA, exB, exD, decide_true, decide_false, Bool.not_true, Bool.not_false, not_true, not_false_iff, eq_self, List.length_map, if_true, if_false, Bool.false_eq_true]
    have hnew : ∀ p ∈ Q, S0.length ≤ p.1 := fun p hp => by
      have : p.1 ∈ P.map Prod.fst := by rw [← hN]; exact List.mem_map_of_mem hp
      obtain ⟨p0, hp0, e⟩ := List.mem_map.mp this
      rw [← e]; exact f.new p0 hp0
    refine ⟨Q, S4, q, rfl, u0.new' u4 (fun m hm => ?_), t4, ⟨t4.row, hnew, by rw [hN]; exact f.nod⟩, hq, hQl, hQR, hQO⟩
    obtain ⟨p0, hp0, e⟩ := List.mem_map.mp hm
    rw [← e]; exact f.new p0 hp0
theorem ones_spec {S : Sto} {ns ds : List Int} {d : Nat} (hs : rdL (.ref 0) S = some (ns.map V.int)) (hl : ns.length ≤ 63) (hd : S[d]? = some (.lst (ds.map V.int))) (hdl : 16 ≤ ds.length) :
    ∃ (P : Rws) (S' : Sto) (b h w : Nat), r__law_ones [.ref 0, .ref d] S = .ok (.ref b) S' ∧ Up [] S S' ∧ Tb S' b P ∧ Fr S.length S' P ∧ S.length ≤ b ∧ P.length = h ∧ Rect w (rowsOf P) ∧ Ones (rowsOf P) ∧ 1 ≤ h ∧ h ≤ 8 ∧ 1 ≤ w ∧ w ≤ 8 := by
  have hS0 : 0 < S.length := by have := slt hd; omega
  have x0 := rix (i := 0) hd (by omega) (by omega)
  have x1 := rix (i := 1) hd (by omega) (by omega)
  obtain ⟨h, w, h1, h8, w1, w8, e1⟩ := shape44_spec (ds.getD (0 : Int).toNat 0) S
  have n1 := snew S (.lst [.int (h : Int), .int (w : Int)])
  have u1 := Up.app [] S [.lst [.int (h : Int), .int (w : Int)]]
  have x1' := rix (i := 1) (u1.get hd) (by omega) (by omega)
  generalize hk0 : ds.getD (1 : Int).toNat 0 % 4 = k at x1'
  rw [r__law_ones_eq, ones_head]
  simp (decide := true) only [ev, ex9, exA, exB, exD, decide_true, decide_false, Bool.not_true, Bool.not_false, not_true, not_false_iff, eq_self, List.length_map, if_true, if_false, Bool.false_eq_true, x0, e1, rdLT_lst n1, x1', hk0]
  have hk4 : 0 ≤ k ∧ k < 4 := by omega
  generalize S ++ [Ob.lst [.int (h : Int), .int (w : Int)]] = S1 at n1 u1 ⊢
  have n2 := snew S1 (.lst [])
  have u2 := Up.app [] S1 [.lst []]
  have u02 := u1.trans u2
  have l1 := u1.len
  generalize hS2 : S1 ++ [Ob.lst []] = S2 at n2 u2 u02 ⊢
  have l2 : S2.length = S1.length + 1 := by rw [← hS2]; simp
  generalize hq : S1.length = q at n2 l1 l2 ⊢
  rw [rng1_ok (by omega), items_rng, Int.toNat_natCast]
  simp (decide := true) only [ev, ex9, exA, exB, exD, decide_true, decide_false, Bool.not_true, Bool.not_false, not_true, not_false_iff, eq_self, List.length_map, if_true, if_false, Bool.false_eq_true]
  obtain ⟨S3, e3, u3, P, hPl, t3, f3, hR3, hO3⟩ := forM_at (chk := chkY) (tg := gI1 6) (ws := [6, 7, 8]) (body := b__law_ones_1) (xs := List.range h) (oneR 0)
    (fun _ => [some (.ref 0), some (.ref d), some (.int (h : Int)), some (.int (w : Int)), some (.int k), some (.ref q), none, none, none, none, none, none, none])
    (fun i S' => Up [q] S2 S' ∧ ∃ P : Rws, P.length = i ∧ Tb S' q P ∧ Fr (q + 1) S' P ∧ Rect w (rowsOf P) ∧ Ones (rowsOf P)) (fun _ _ _ => rfl)
    (fun i x S' hx hI => by
      obtain ⟨u, P, hPl, t, f, hR, hO⟩ := hI
      obtain ⟨hi, rfl⟩ := rng_at hx
      refine ⟨_, gI1_one _ _ _ _, ?_⟩
      have hdq : d ≠ q := by have := slt hd; omega
      have hd' : S'[d]? = some (.lst (ds.map V.int)) := u.get1 (u02.get hd) hdq
      have z0 : (8 : Int) + (0 + (i : Int)) = ((8 + i : Nat) : Int) := by omega
      have xc := rix (i := ((8 + i : Nat) : Int)) hd' (by omega) (by omega)
      generalize ds.getD ((8 + i : Nat) : Int).toNat 0 = c at xc
      have hw1 : (0 : Int) < (w : Int) + 1 := by omega
      -- the new row
      have fin : ∀ row : List Int, row.length = w → (∀ x ∈ row, x = 0 ∨ x = 1) → ∃ S5, appM (.ref q) [.ref S'.length] (S' ++ [.lst (row.map V.int)]) = .ok .non S5 ∧ Up [q] S2 S5 ∧ ∃ P : Rws, P.length = i + 1 ∧ Tb S5 q P ∧ Fr (q + 1) S5 P ∧ Rect w (rowsOf P) ∧ Ones (rowsOf P) := fun row hrl hro => by
        have v := Up.app [] S' [.lst (row.map V.int)]
        have nv := snew S' (.lst (row.map V.int))
        have tv := t.up v
        have lq := t.lt
        have lv := v.len
        have ha := appM_at (y := .ref S'.length) (tv.top) (by rw [List.length_map]; omega)
        refine ⟨_, ha, (u.trans v.any).trans (Up.set (by simp) _), P ++ [(S'.length, row)], by simp [hPl], tv.snoc nv (by omega), ?_, by rw [rows_snoc]; exact rect_snoc hR hrl, by rw [rows_snoc]; exact ones_snoc hO hro⟩
        have g := f.snoc v (by have := u.len; omega) (Nat.le_refl _) nv
        exact g.set (by omega) _
      by_cases hk : k = 0
      · obtain ⟨S5, e5, h5⟩ := fin ((List.range w).map fun (j : Nat) => c / 16 / (1 + 3 * (j : Int)) % 2) (by simp) (fun x hx => by
          obtain ⟨j, _, rfl⟩ := List.mem_map.mp hx
          omega)
        simp (decide := true) only [ev, ex9, exA, exB, exD, decide_true, decide_false, Bool.not_true, Bool.not_false, not_true, not_false_iff, eq_self, List.length_map, if_true, if_false, Bool.false_eq_true, b__law_ones_1, z0, xc, modM_pos (i := c) hw1, hk, isLs_of (rdL_lst t.top)]
        rw [rng1_ok (by omega), items_rng, Int.toNat_natCast]
        simp (decide := true) only [ev, ex9, exA, exB, exD, decide_true, decide_false, Bool.not_true, Bool.not_false, not_true, not_false_iff, eq_self, List.length_map, if_true, if_false, Bool.false_eq_true]
        rw [compM_pure (α := Nat) (oneR 0) (fun (j : Nat) => .int (c / 16 / (1 + 3 * (j : Int)) % 2)) rfl (fun j hj => ⟨_, gI1_one _ _ _ _, by
          have hj := List.mem_range.mp hj
          simp only [Int.zero_add]
          have hm : mulM (.int 3) (.int (j : Int)) S' = .ok (.int (3 * (j : Int))) S' := mulM_l (by omega) _
          simp (decide := true) only [ev, ex9, exA, exB, exD, decide_true, decide_false, Bool.not_true, Bool.not_false, not_true, not_false_iff, eq_self, List.length_map, if_true, if_false, Bool.false_eq_true, e__law_ones_1, hm, fdivM_pos (i := c / 16) (j := 1 + 3 * (j : Int)) ⟨by omega, by omega⟩]⟩)]
        have em : ((List.range w).map fun (j : Nat) => V.int (c / 16 / (1 + 3 * (j : Int)) % 2)) = ((List.range w).map fun (j : Nat) => c / 16 / (1 + 3 * (j : Int)) % 2).map V.int := by rw [List.map_map]; rfl
        rw [em]
        simp (decide := true) only [ev, ex9, exA, exB, exD, decide_true, decide_false, Bool.not_true, Bool.not_false, not_true, not_false_iff, eq_self, List.length_map, if_true, if_false, Bool.false_eq_true, e5, Tn_nx]
        exact ⟨trivial, h5⟩
      · obtain ⟨S5, e5, h5⟩ := fin ((List.range w).map fun (j : Nat) => if decide ((j : Int) < c % ((w : Int) + 1)) = true then (1 : Int) else 0) (by simp) (fun x hx => by
          obtain ⟨j, _, rfl⟩ := List.mem_map.mp hx
          split <;> simp)
        simp (decide := true) only [ev, ex9, exA, exB, exD, decide_true, decide_false, Bool.not_true, Bool.not_false, not_true, not_false_iff, eq_self, List.length_map, if_true, if_false, Bool.false_eq_true, b__law_ones_1, z0, xc, modM_pos (i := c) hw1, hk, isLs_of (rdL_lst t.top)]
        rw [rng1_ok (by omega), items_rng, Int.toNat_natCast]
        simp (decide := true) only [ev, ex9, exA, exB, exD, decide_true, decide_false, Bool.not_true, Bool.not_false, not_true, not_false_iff, eq_self, List.length_map, if_true, if_false, Bool.false_eq_true]
        rw [compM_pure (α := Nat) (oneR 0) (fun (j : Nat) => .int (if decide ((j : Int) < c % ((w : Int) + 1)) = true then (1 : Int) else 0)) rfl (fun j hj => ⟨_, gI1_one _ _ _ _, by
          simp only [Int.zero_add]
          by_cases z : (j : Int) < c % ((w : Int) + 1)
          · simp (decide := true) only [ev, ex9, exA, exB, exD, decide_true, decide_false, Bool.not_true, Bool.not_false, not_true, not_false_iff, eq_self, List.length_map, if_true, if_false, Bool.false_eq_true, e__law_ones_2, z, intM_bl]
          · simp (decide := true) only [ev, ex9, exA, exB, exD, decide_true, decide_false, Bool.not_true, Bool.not_false, not_true, not_false_iff, eq_self, List.length_map, if_true, if_false, Bool.false_eq_true, e__law_ones_2, z, intM_bl]⟩)]
        have em : ((List.range w).map fun (j : Nat) => V.int (if decide ((j : Int) < c % ((w : Int) + 1)) = true then (1 : Int) else 0)) = ((List.range w).map fun (j : Nat) => if decide ((j : Int) < c % ((w : Int) + 1)) = true then (1 : Int) else 0).map V.int := by rw [List.map_map]; rfl
        rw [em]
        simp (decide := true) only [ev, ex9, exA, exB, exD, decide_true, decide_false, Bool.not_true, Bool.not_false, not_true, not_false_iff, eq_self, List.length_map, if_true, if_false, Bool.false_eq_true, e5, Tn_nx]
        exact ⟨trivial, h5⟩) (S := S2) ⟨Up.refl _ _, [], rfl, ⟨n2, fun _ h => (nomatch h)⟩, Fr.nil _ _, fun _ h => (nomatch h), fun _ h => (nomatch h)⟩
  rw [e3]
  simp (decide := true) only [ev, ex9, exA, exB, exD, decide_true, decide_false, Bool.not_true, Bool.not_false, not_true, not_false_iff, eq_self, List.length_map, if_true, if_false, Bool.false_eq_true]
  rw [List.length_range] at hPl
  have u03 : Up [] S S3 := u02.new' u3 (fun m hm => by rw [List.mem_singleton.mp hm]; exact l1)
  have f3' : Fr S.length S3 P := ⟨f3.row, fun p hp => by have := f3.new p hp; omega, f3.nod⟩
  have hs3 := rdL_up u03 hs
  by_cases hk : k = 2
  · obtain ⟨H, S4, e4, u4, hH, f4⟩ := compM_tbl (S0 := S3) (xs := List.range h) (chk := chkL (.ref q) (P.map fun p => V.ref p.1)) (tg := gIT [6, 10]) (te := e__law_ones_3) (σ := [some (.ref 0), some (.ref d), some (.int (h : Int)), some (.int (w : Int)), some (.int k), some (.ref q), none, none, none, none, none, none, none]) (fun i => .many [.int (i : Nat), .ref ((P.map Prod.fst).getD i 0)]) (fun i => ((rowsOf P).getD i []).drop (i % w) ++ ((rowsOf P).getD i []).take (i % w)) (fun S' u => chkL_of (t3.up u).rd) (fun i hi S' u => ⟨_, gIT2 _ _ _ _ _ _, by
        have hi := List.mem_range.mp hi
        obtain ⟨nm, hnm⟩ := row_of (P := P) (i := i) (by omega)
        have en : (P.map Prod.fst).getD i 0 = nm := by rw [List.getD_eq_getElem?_getD, List.getElem?_map, hnm]; rfl
        have hrow := (t3.up u).get hnm
        have hrl : ((rowsOf P).getD i []).length = w := row_len hR3 (by rw [rows_len]; omega)
        generalize (rowsOf P).getD i [] = row at hrow hrl
        have hww : (0 : Int) < (w : Int) := by omega
        have hm : (i : Int) % (w : Int) = ((i % w : Nat) : Int) := by simp
        have c1 := cutM_drop (k := ((i % w : Nat) : Int)) (by omega) (rdL_lst hrow)
        have v1 := Up.app [] S' [.lst ((row.drop (i % w)).map V.int)]
        have c2 := cutM_take (k := ((i % w : Nat) : Int)) (by omega) (rdL_lst (v1.get hrow))
        have v2 := Up.app [] (S' ++ [.lst ((row.drop (i % w)).map V.int)]) [.lst ((row.take (i % w)).map V.int)]
        have c3 := catM_at (v2.get (snew S' (.lst ((row.drop (i % w)).map V.int)))) (snew (S' ++ [.lst ((row.drop (i % w)).map V.int)]) (.lst ((row.take (i % w)).map V.int))) (by simp only [List.length_map, List.length_drop, List.length_take]; omega)
        rw [Int.toNat_natCast, ← List.map_drop] at c1
        rw [Int.toNat_natCast, ← List.map_take] at c2
        rw [en]
        simp (decide := true) only [ev, ex9, exA, exB, exD, decide_true, decide_false, Bool.not_true, Bool.not_false, not_true, not_false_iff, eq_self, List.length_map, if_true, if_false, Bool.false_eq_true, e__law_ones_3, modM_pos (i := (i : Int)) hww, hm, c1, c2, c3, Re_ok]
        exact ⟨(v1.trans v2).trans (Up.app _ _ _), _, rfl, by simp, by rw [List.map_append]; exact snew _ _⟩⟩) S3 (Up.refl _ _)
    have hen : enumI (P.map fun p => V.ref p.1) = (List.range h).map fun i => .many [.int (i : Nat), .ref ((P.map Prod.fst).getD i 0)] := by
      unfold enumI
      apply List.ext_getElem (by simp [hPl])
      intro i a1 a2
      have hi : i < P.length := by simpa using a1
      simp [List.getD_eq_getElem?_getD, List.getElem?_map, List.getElem?_eq_getElem hi]
    rw [hk]
    rw [hk] at e4
    simp (decide := true) only [ev, ex9, exA, exB, exD, decide_true, decide_false, Bool.not_true, Bool.not_false, not_true, not_false_iff, eq_self, List.length_map, if_true, if_false, Bool.false_eq_true, t3.rd, hen, e4]
    have n5 := snew S4 (.lst (H.map fun p => V.ref p.1))
    have u5 := Up.app [] S4 [.lst (H.map fun p => V.ref p.1)]
    have f5 := f4.up u5
    have l03 := u03.len
    have l34 := u4.len
    have hHl : H.length = h := by rw [← rows_len, hH]; simp
    obtain ⟨Q, S6, b, e6, u6, t6, f6, lb, hQl, hQR, hQO⟩ := ones_tail_spec (d := .ref d) (k := 2) ((u03.trans u4).trans u5) (rdL_up (u4.trans u5) hs3) hS0 hl (f5.tb n5) ⟨f5.row, fun p hp => by have := f5.new p hp; omega, f5.nod⟩ (by omega) hHl (fun r hr => by
      rw [hH] at hr
      obtain ⟨i, hi, rfl⟩ := List.mem_map.mp hr
      have hi := List.mem_range.mp hi
      have hrl : ((rowsOf P).getD i []).length = w := row_len hR3 (by rw [rows_len]; omega)
      have : i % w < w := Nat.mod_lt _ (by omega)
      simp only [List.length_append, List.length_drop, List.length_take]
      omega) (fun r hr x hx => by
      rw [hH] at hr
      obtain ⟨i, hi, rfl⟩ := List.mem_map.mp hr
      have hi := List.mem_range.mp hi
      have hm : x ∈ (rowsOf P).getD i [] := by
        rcases List.mem_append.mp hx with z | z
        · exact List.mem_of_mem_drop z
        · exact List.mem_of_mem_take z
      exact hO3 _ (rt_mem (by rw [rows_len]; omega)) x hm) h1 h8 w1 w8
    exact ⟨Q, S6, b, h, w, e6, u6, t6, f6, lb, hQl, hQR, hQO, h1, h8, w1, w8⟩
  · simp (decide := true) only [ev, ex9, exA, exB, exD, decide_true, decide_false, Bool.not_true, Bool.not_false, not_true, not_false_iff, eq_self, List.length_map, if_true, if_false, Bool.false_eq_true, hk]
    obtain ⟨Q, S6, b, e6, u6, t6, f6, lb, hQl, hQR, hQO⟩ := ones_tail_spec (d := .ref d) (k := k) u03 hs3 hS0 hl t3 f3' l1 hPl hR3 hO3 h1 h8 w1 w8
    exact ⟨Q, S6, b, h, w, e6, u6, t6, f6, lb, hQl, hQR, hQO, h1, h8, w1, w8⟩
theorem onesOf_self {P : List (List Int)} {h w : Nat} (hl : P.length = h) (hR : Rect w P) (hO : Ones P) (h1 : 1 ≤ h) : OnesOf P (fun i => (P.map List.sum).getD i 0) (fun j => ((turn P).map List.sum).getD j 0) h w := by
  have hw : wide P = w := by
    cases P with
    | nil => simp at hl; omega
    | cons r P => exact hR r List.mem_cons_self
  refine ⟨hl, hR, hO, fun i hi => ?_, fun j hj => ?_⟩
  · rw [List.getD_eq_getElem?_getD, List.getElem?_map, List.getElem?_eq_getElem (by omega)]
    have hg : P.getD i [] = P[i]'(by omega) := by rw [List.getD_eq_getElem?_getD, List.getElem?_eq_getElem (by omega)]; rfl
    show _ = (P[i]'(by omega)).sum
    rw [← hg, rr_sum (row_len hR (by omega))]; rfl
  · rw [turn, List.map_map, hw, List.getD_eq_getElem?_getD, List.getElem?_map, List.getElem?_range hj]
    exact (rt_sum hl).symm

/-! == of what is the same data -/
theorem neM_same {S : Sto} {x y : V} {d : PyData} (hx : toD 5 S x = some d) (hy : toD 5 S y = some d) (hs : SeqAt.shaped d = true) : neM x y S = .ok (.bl false) S := by
  have hc : d.canLay0 = true := by
    unfold SeqAt.shaped at hs
    rw [Bool.and_eq_true] at hs
    exact hs.1
  unfold neM eqB
  rw [hx, hy]
  simp only [hs, and_self, if_true, SeqAt.eqv_refl d hc, Bool.not_true]
theorem eqM_same {S : Sto} {x y : V} {d : PyData} (hx : toD 5 S x = some d) (hy : toD 5 S y = some d) (hs : SeqAt.shaped d = true) : eqM x y S = .ok (.bl true) S := by
  have hc : d.canLay0 = true := by
    unfold SeqAt.shaped at hs
    rw [Bool.and_eq_true] at hs
    exact hs.1
  unfold eqM eqB
  rw [hx, hy]
  simp only [hs, and_self, if_true, SeqAt.eqv_refl d hc]
def dTb (T : List (List Int)) : PyData := .list (T.map dRow)
theorem lay_dTb (T : List (List Int)) : (dTb T).canLay0 = true := by rw [dTb, PyData.canLay0, layA_rows]
theorem depth_dTb (T : List (List Int)) : (dTb T).depth ≤ 3 := by
  rw [dTb, PyData.depth]
  have := depA_rows T
  omega
theorem lay_dRow (r : List Int) : (dRow r).canLay0 = true := by rw [dRow, PyData.canLay0, layA_ints]
theorem toD_lst2 {S : Sto} {a : Nat} {x y : V} {dx dy : PyData} {n : Nat} (h : S[a]? = some (.lst [x, y])) (hx : toD n S x = some dx) (hy : toD n S y = some dy) : toD (n + 1) S (.ref a) = some (.list [dx, dy]) := by
  rw [toD]
  simp only [h]
  rw [List.mapM_cons, hx, List.mapM_cons, hy, List.mapM_nil]
  rfl
theorem shaped_two {dx dy : PyData} {k : Nat} (h1 : dx.canLay0 = true) (h2 : dy.canLay0 = true) (e1 : dx.depth ≤ 60) (e2 : dy.depth ≤ 60) : SeqAt.shaped (.list [dx, dy]) = true := by
  unfold SeqAt.shaped
  rw [PyData.canLay0, PyData.canLayAll0, PyData.canLayAll0, PyData.canLayAll0, h1, h2, PyData.depth, PyData.depthAll, PyData.depthAll, PyData.depthAll]
  simp; omega
theorem lay_two {dx dy : PyData} (h1 : dx.canLay0 = true) (h2 : dy.canLay0 = true) : (PyData.list [dx, dy]).canLay0 = true := by
  rw [PyData.canLay0, PyData.canLayAll0, PyData.canLayAll0, PyData.canLayAll0, h1, h2]; rfl
theorem depth_two {dx dy : PyData} {k : Nat} (e1 : dx.depth ≤ k) (e2 : dy.depth ≤ k) : (PyData.list [dx, dy]).depth ≤ k + 1 := by
  rw [PyData.depth, PyData.depthAll, PyData.depthAll, PyData.depthAll]
  simp; omega

/-! cuts as told -/
def natI (A : List Nat) : List Int := A.map fun (k : Nat) => (k : Int)
theorem natI_V (A : List Nat) : (A.map fun (k : Nat) => V.int k) = (natI A).map V.int := by rw [natI, List.map_map]; rfl
theorem natI_len (A : List Nat) : (natI A).length = A.length := List.length_map ..
theorem natI_at {A : List Nat} {k : Nat} (h : k < A.length) : (natI A).getD k 0 = ((A[k] : Nat) : Int) := by
  unfold natI
  rw [List.getD_eq_getElem?_getD, List.getElem?_map, List.getElem?_eq_getElem h]; rfl
theorem natI_mem {A : List Nat} {k : Nat} : ((k : Int) ∈ natI A) ↔ k ∈ A := by
  unfold natI
  rw [List.mem_map]
  constructor
  · rintro ⟨x, hx, e⟩
    have : x = k := by omega
    rw [← this]; exact hx
  · exact fun h => ⟨k, h, rfl⟩
theorem inM_nat {S : Sto} {n k : Nat} {A : List Nat} (h : S[n]? = some (.lst ((natI A).map V.int))) : inM false (.int (k : Int)) (.ref n) S = .ok (.bl (decide (k ∈ A))) S := by
  rw [inM_ints (rdLT_lst h)]
  simp only [natI_mem, Bool.false_eq_true, if_false]
theorem ninM_nat {S : Sto} {n k : Nat} {A : List Nat} (h : S[n]? = some (.lst ((natI A).map V.int))) : inM true (.int (k : Int)) (.ref n) S = .ok (.bl (!decide (k ∈ A))) S := by
  rw [inM_ints (rdLT_lst h)]
  simp only [natI_mem, if_true]
theorem sum_filter (p : Nat → Bool) (f : Nat → Int) : ∀ l : List Nat, ((l.filter p).map f).sum = (l.map fun i => bz (p i) (f i)).sum
  | [] => rfl
  | x :: l => by
    cases h : p x with
    | true =>
      rw [List.filter_cons_of_pos h, List.map_cons, List.map_cons, List.sum_cons, List.sum_cons, sum_filter p f l, h]; rfl
    | false =>
      rw [List.filter_cons_of_neg (by simp [h]), List.map_cons, List.sum_cons, sum_filter p f l, h]
      show _ = (0 : Int) + _
      omega
theorem sumR_nil (f : Nat → Int) : sumR 0 f = 0 := rfl
theorem pair_nodup {A : List Nat} (h : A.Pairwise (· < ·)) : A.Nodup := h.imp fun h => by omega
theorem sum_some {A : List Nat} {n : Nat} (h : A.Pairwise (· < ·)) (hl : ∀ i ∈ A, i < n) (f : Nat → Int) : (A.map f).sum = sumR n fun i => bz (decide (i ∈ A)) (f i) := by
  have p : A.Perm ((List.range n).filter fun i => decide (i ∈ A)) := by
    rw [List.perm_ext_iff_of_nodup (pair_nodup h) (List.Nodup.sublist List.filter_sublist List.nodup_range)]
    intro a
    rw [List.mem_filter, List.mem_range]
    constructor
    · exact fun ha => ⟨hl a ha, by simpa using ha⟩
    · exact fun ha => by simpa using ha.2
  rw [sum_perm (p.map f), sum_filter]; rfl
theorem rising_spec {S : Sto} {na h : Nat} {A : List Nat} (hA : S[na]? = some (.lst ((natI A).map V.int))) (up : A.Pairwise (· < ·)) (hl : ∀ i ∈ A, i < h) (hal : A.length ≤ 1000) : r__law_rising [.ref na, .int (h : Int)] S = .ok (.bl true) S := by
  have hlen : lenM [.ref na] S = .ok (.int (A.length : Int)) S := by rw [lenM_at (rdLT_lst hA), List.length_map, natI_len]
  simp (decide := true) only [ev, ex9, exA, exB, exD, decide_true, decide_false, Bool.not_true, Bool.not_false, not_true, not_false_iff, eq_self, List.length_map, if_true, if_false, Bool.false_eq_true, r__law_rising_eq, c__law_rising, isi_of (tyN_lst hA) (b := "list") (by decide), Bool.true_or, hlen]
  rw [rng1_ok (by omega), items_rng, Int.toNat_natCast]
  simp (decide := true) only [ev, ex9, exA, exB, exD, decide_true, decide_false, Bool.not_true, Bool.not_false, not_true, not_false_iff, eq_self, List.length_map, if_true, if_false, Bool.false_eq_true]
  obtain ⟨S1, e1, rfl⟩ := forM_at (chk := chkY) (tg := gI1 2) (ws := [2]) (body := b__law_rising_1) (xs := List.range A.length) (oneR 0) (fun _ => [some (.ref na), some (.int (h : Int)), none]) (fun _ S1 => S1 = S) (fun _ _ _ => rfl)
    (fun k x S1 hx e => by
      subst e
      obtain ⟨hk, rfl⟩ := rng_at hx
      have z0 : (0 : Int) + (k : Int) = (k : Int) := by omega
      refine ⟨_, gI1_one _ _ _ _, ?_⟩
      have a1 := rix (i := (k : Int)) hA (by omega) (by rw [natI_len]; omega)
      rw [Int.toNat_natCast, natI_at hk] at a1
      have hlt := hl A[k] (List.getElem_mem hk)
      have b1 : (0 : Int) ≤ ((A[k] : Nat) : Int) := by omega
      have b2 : ((A[k] : Nat) : Int) < (h : Int) := by omega
      by_cases h0 : (k : Int) > 0
      · have hk1 : k - 1 < A.length := by omega
        have a2 := rix (i := (k : Int) - 1) hA (by omega) (by rw [natI_len]; omega)
        have ek : ((k : Int) - 1).toNat = k - 1 := by omega
        rw [ek, natI_at hk1] at a2
        have hp := List.pairwise_iff_getElem.mp up (k - 1) k hk1 hk (by omega)
        have b3 : ¬ ((A[k - 1] : Nat) : Int) ≥ ((A[k] : Nat) : Int) := by omega
        simp (decide := true) only [ev, ex9, exA, exB, exD, decide_true, decide_false, Bool.not_true, Bool.not_false, not_true, not_false_iff, eq_self, List.length_map, if_true, if_false, Bool.false_eq_true, b__law_rising_1, z0, a1, whole_spec, b1, b2, h0, a2, b3, Tn_nx]
      · simp (decide := true) only [ev, ex9, exA, exB, exD, decide_true, decide_false, Bool.not_true, Bool.not_false, not_true, not_false_iff, eq_self, List.length_map, if_true, if_false, Bool.false_eq_true, b__law_rising_1, z0, a1, whole_spec, b1, b2, h0, Tn_nx]) (S := S) rfl
  rw [e1]
  simp (decide := true) only [ev, ex9, exA, exB, exD, decide_true, decide_false, Bool.not_true, Bool.not_false, not_true, not_false_iff, eq_self, List.length_map, if_true, if_false, Bool.false_eq_true]
theorem bars_spec {S : Sto} {na nb rn cn l u h w : Nat} {A B : List Nat} {rows cols : List Int} {PL PU : Rws} (hA : S[na]? = some (.lst (A.map fun (k : Nat) => V.int k))) (hB : S[nb]? = some (.lst (B.map fun (k : Nat) => V.int k))) (hr : S[rn]? = some (.lst (rows.map V.int))) (hc : S[cn]? = some (.lst (cols.map V.int))) (rl : rows.length = h) (cw : cols.length = w) (tl : Tb S l PL) (tu : Tb S u PU)
    (hRL : Rect w (rowsOf PL)) (hRU : Rect w (rowsOf PU)) (hlL : PL.length = h) (hlU : PU.length = h) (h8 : h ≤ 1000) (w8 : w ≤ 1000) (C : CutI A B (fun i => rows.getD i 0) (fun j => cols.getD j 0) (rowsOf PL) (rowsOf PU) h w) :
    ∃ S', r__law_bars [.ref na, .ref nb, .ref rn, .ref cn, .ref l, .ref u] S = .ok (.bl true) S' ∧ Up [] S S' := by
  rw [natI_V] at hA hB
  have hAl : A.length ≤ h := by
    have := nodup_le (fun i : Nat => i) (xs := A) (ys := List.range h) (by rw [List.map_id']; exact pair_nodup C.upA) (fun x hx => List.mem_range.mpr (C.ltA x hx))
    simpa using this
  have hBl : B.length ≤ w := by
    have := nodup_le (fun i : Nat => i) (xs := B) (ys := List.range w) (by rw [List.map_id']; exact pair_nodup C.upB) (fun x hx => List.mem_range.mpr (C.ltB x hx))
    simpa using this
  have k1 : lenM [.ref rn] S = .ok (.int (h : Int)) S := by rw [lenM_at (rdLT_lst hr), List.length_map, rl]
  have k2 : lenM [.ref cn] S = .ok (.int (w : Int)) S := by rw [lenM_at (rdLT_lst hc), List.length_map, cw]
  have e1 := rising_spec (h := h) hA C.upA C.ltA (by omega)
  have e2 := rising_spec (h := w) hB C.upB C.ltB (by omega)
  simp (decide := true) only [ev, ex9, exA, exB, exD, decide_true, decide_false, Bool.not_true, Bool.not_false, not_true, not_false_iff, eq_self, List.length_map, if_true, if_false, Bool.false_eq_true, r__law_bars_eq, c__law_bars, k1, k2, e1, e2, rdL_lst hB, items_int]
  have gB : (natI B).map (fun z => cols.getD z.toNat 0) = B.map fun j => cols.getD j 0 := by rw [natI, List.map_map]; rfl
  rw [compM_pure (α := Int) oneI (fun z => .int (cols.getD z.toNat 0)) (chkL_of (rdL_lst hB)) (fun z hz => ⟨_, gI1_one _ _ _ _, by
    obtain ⟨j, hj, rfl⟩ := List.mem_map.mp hz
    have := C.ltB j hj
    have := rix (i := (j : Int)) hc (by omega) (by omega)
    simp (decide := true) only [ev, ex9, exA, exB, exD, decide_true, decide_false, Bool.not_true, Bool.not_false, not_true, not_false_iff, eq_self, List.length_map, if_true, if_false, Bool.false_eq_true, e__law_bars_1, this]⟩)]
  have v1 := Up.app [] S [.lst ((natI B).map fun z => V.int (cols.getD z.toNat 0))]
  have s1 := sumM_at (x := .ref S.length) (ns := B.map fun j => cols.getD j 0) (rdL_lst (by rw [← gB, List.map_map]; exact snew S (.lst ((natI B).map fun z => V.int (cols.getD z.toNat 0)))))
  have k1' : lenM [.ref rn] (S ++ [Ob.lst ((natI B).map fun z => V.int (cols.getD z.toNat 0))]) = .ok (.int (h : Int)) (S ++ [Ob.lst ((natI B).map fun z => V.int (cols.getD z.toNat 0))]) := by rw [lenM_at (rdLT_lst (v1.get hr)), List.length_map, rl]
  rw [sum_some C.upB C.ltB] at s1
  simp (decide := true) only [ev, ex9, exA, exB, exD, decide_true, decide_false, Bool.not_true, Bool.not_false, not_true, not_false_iff, eq_self, List.length_map, if_true, if_false, Bool.false_eq_true, s1, k1']
  rw [rng1_ok (by omega), items_rng, Int.toNat_natCast]
  have hA1 := v1.get hA
  have hB1 := v1.get hB
  have hr1 := v1.get hr
  have hc1 := v1.get hc
  have tl1 := tl.up v1
  have tu1 := tu.up v1
  simp (decide := true) only [ev, ex9, exA, exB, exD, decide_true, decide_false, Bool.not_true, Bool.not_false, not_true, not_false_iff, eq_self, List.length_map, if_true, if_false, Bool.false_eq_true]
  generalize S ++ [Ob.lst ((natI B).map fun z => V.int (cols.getD z.toNat 0))] = S1 at v1 hA1 hB1 hr1 hc1 tl1 tu1 ⊢
  have hok := C.ok
  unfold CutOk at hok
  generalize hr0 : (sumR w fun j => bz (decide (j ∈ B)) (cols.getD j 0)) = r0 at hok ⊢
  obtain ⟨S2, e3, rfl⟩ := forM_at (chk := chkY) (tg := gI1 8) (ws := [7, 8]) (body := b__law_bars_2) (xs := List.range h) (oneR 0)
    (fun i => [some (.ref na), some (.ref nb), some (.ref rn), some (.ref cn), some (.ref l), some (.ref u), some (.int (r0 + sumR i fun i => sumR w fun j => bz (decide (i ∈ A) && !decide (j ∈ B)) (cl (rowsOf PU) i j) - bz (!decide (i ∈ A) && decide (j ∈ B)) (cl (rowsOf PL) i j))), none, none]) (fun _ S2 => S2 = S1) (fun _ _ _ => rfl)
    (fun k x S2 hx e => by
      subst e
      obtain ⟨hk, rfl⟩ := rng_at hx
      have z0 : (0 : Int) + (k : Int) = (k : Int) := by omega
      refine ⟨_, gI1_one _ _ _ _, ?_⟩
      have k2' : lenM [.ref cn] S2 = .ok (.int (w : Int)) S2 := by rw [lenM_at (rdLT_lst hc1), List.length_map, cw]
      simp (decide := true) only [ev, ex9, exA, exB, exD, decide_true, decide_false, Bool.not_true, Bool.not_false, not_true, not_false_iff, eq_self, List.length_map, if_true, if_false, Bool.false_eq_true, b__law_bars_2, z0, k2']
      rw [rng1_ok (by omega), items_rng, Int.toNat_natCast]
      simp (decide := true) only [ev, ex9, exA, exB, exD, decide_true, decide_false, Bool.not_true, Bool.not_false, not_true, not_false_iff, eq_self, List.length_map, if_true, if_false, Bool.false_eq_true]
      obtain ⟨S3, e4, rfl⟩ := forM_at (chk := chkY) (tg := gI1 7) (ws := [7]) (body := b__law_bars_1) (xs := List.range w) (oneR 0)
        (fun j => [some (.ref na), some (.ref nb), some (.ref rn), some (.ref cn), some (.ref l), some (.ref u), some (.int ((r0 + sumR k fun i => sumR w fun j => bz (decide (i ∈ A) && !decide (j ∈ B)) (cl (rowsOf PU) i j) - bz (!decide (i ∈ A) && decide (j ∈ B)) (cl (rowsOf PL) i j)) + sumR j fun j => bz (decide (k ∈ A) && !decide (j ∈ B)) (cl (rowsOf PU) k j) - bz (!decide (k ∈ A) && decide (j ∈ B)) (cl (rowsOf PL) k j))), none, some (.int (k : Int))]) (fun _ S3 => S3 = S2) (fun _ _ _ => rfl)
        (fun j y S3 hy e => by
          subst e
          obtain ⟨hj, rfl⟩ := rng_at hy
          have y0 : (0 : Int) + (j : Int) = (j : Int) := by omega
          refine ⟨_, gI1_one _ _ _ _, ?_⟩
          obtain ⟨n1, x1, x2⟩ := cell_rd (i := (k : Int)) (j := (j : Int)) tl1 hRL (by omega) (by omega) (by omega) (by omega)
          obtain ⟨n2, y1, y2⟩ := cell_rd (i := (k : Int)) (j := (j : Int)) tu1 hRU (by omega) (by omega) (by omega) (by omega)
          have x2 := x2 (j : Int) (by omega) (by omega)
          have y2 := y2 (j : Int) (by omega) (by omega)
          rw [Int.toNat_natCast, Int.toNat_natCast] at x2 y2
          have i1 := inM_nat (k := k) hA1
          have i2 := ninM_nat (k := k) hA1
          have i3 := inM_nat (k := j) hB1
          have i4 := ninM_nat (k := j) hB1
          rw [sumR_succ]
          generalize (sumR k fun i => sumR w fun j => bz (decide (i ∈ A) && !decide (j ∈ B)) (cl (rowsOf PU) i j) - bz (!decide (i ∈ A) && decide (j ∈ B)) (cl (rowsOf PL) i j)) = q1
          generalize (sumR j fun j => bz (decide (k ∈ A) && !decide (j ∈ B)) (cl (rowsOf PU) k j) - bz (!decide (k ∈ A) && decide (j ∈ B)) (cl (rowsOf PL) k j)) = q2
          by_cases ha : k ∈ A <;> by_cases hb : j ∈ B
          all_goals
            simp only [ha, hb, decide_true, decide_false, Bool.not_true, Bool.not_false] at i1 i2 i3 i4
            simp (decide := true) only [ev, ex9, exA, exB, exD, decide_true, decide_false, Bool.not_true, Bool.not_false, not_true, not_false_iff, eq_self, List.length_map, if_true, if_false, Bool.false_eq_true, b__law_bars_1, y0, i1, i2, i3, i4, x1, x2, y1, y2, Tn_nx, ha, hb, bz, Bool.true_and, Bool.false_and, and_true]
            try (simp only [List.cons.injEq, Option.some.injEq, V.int.injEq, true_and, and_true]; omega)) (S := S2) rfl
      simp only [sumR_nil, Int.add_zero, List.length_range] at e4
      rw [e4]
      rw [sumR_succ]
      simp (decide := true) only [ev, ex9, exA, exB, exD, decide_true, decide_false, Bool.not_true, Bool.not_false, not_true, not_false_iff, eq_self, List.length_map, if_true, if_false, Bool.false_eq_true, Tn_nx, Int.add_assoc]) (S := S1) rfl
  simp only [sumR_nil, Int.add_zero, List.length_range] at e3
  rw [e3]
  simp (decide := true) only [ev, ex9, exA, exB, exD, decide_true, decide_false, Bool.not_true, Bool.not_false, not_true, not_false_iff, eq_self, List.length_map, if_true, if_false, Bool.false_eq_true, rdL_lst hA1, items_int]
  have gA : (natI A).map (fun z => rows.getD z.toNat 0) = A.map fun i => rows.getD i 0 := by rw [natI, List.map_map]; rfl
  rw [compM_pure (α := Int) oneI (fun z => .int (rows.getD z.toNat 0)) (chkL_of (rdL_lst hA1)) (fun z hz => ⟨_, gI1_one _ _ _ _, by
    obtain ⟨j, hj, rfl⟩ := List.mem_map.mp hz
    have := C.ltA j hj
    have := rix (i := (j : Int)) hr1 (by omega) (by omega)
    simp (decide := true) only [ev, ex9, exA, exB, exD, decide_true, decide_false, Bool.not_true, Bool.not_false, not_true, not_false_iff, eq_self, List.length_map, if_true, if_false, Bool.false_eq_true, e__law_bars_2, this]⟩)]
  have s2 := sumM_at (x := .ref S2.length) (ns := A.map fun i => rows.getD i 0) (rdL_lst (by rw [← gA, List.map_map]; exact snew S2 (.lst ((natI A).map fun z => V.int (rows.getD z.toNat 0)))))
  rw [sum_some C.upA C.ltA] at s2
  simp (decide := true) only [ev, ex9, exA, exB, exD, decide_true, decide_false, Bool.not_true, Bool.not_false, not_true, not_false_iff, eq_self, List.length_map, if_true, if_false, Bool.false_eq_true, s2]
  have hgt : (sumR h fun i => bz (decide (i ∈ A)) (rows.getD i 0)) > r0 + sumR h fun i => sumR w fun j => bz (decide (i ∈ A) && !decide (j ∈ B)) (cl (rowsOf PU) i j) - bz (!decide (i ∈ A) && decide (j ∈ B)) (cl (rowsOf PL) i j) := hok
  simp (decide := true) only [ev, ex9, exA, exB, exD, decide_true, decide_false, Bool.not_true, Bool.not_false, not_true, not_false_iff, eq_self, List.length_map, if_true, if_false, Bool.false_eq_true, hgt]
  exact ⟨_, rfl, v1.trans (Up.app _ _ _)⟩

theorem forM_clear2 {chk : Sto → Bool} {k : Nat} {body : St → Sto → R Fl} {σ : St} {N : List Nat} (hb : body = sEx (eM0 isLs clearM (eV k))) (hk : k < σ.length) (hσ : (σ.set k none) = σ) {S : Sto} (hr : ∀ n ∈ N, ∃ xs, S[n]? = some (.lst xs)) (hc : ∀ S', Up N S S' → chk S' = true) :
    ∃ S', forM chk (gI1 k) [k] body ((N.map V.ref).map Itm.one) σ S = .ok (.nx σ) S' ∧ Up N S S' := by
  have a1 : (N.map fun n => (n, ([] : List Int))).map Prod.fst = N := by
    rw [List.map_map]; exact List.map_id N
  have a2 : (N.map fun n => (n, ([] : List Int))).map oneP = (N.map V.ref).map Itm.one := by rw [List.map_map, List.map_map]; rfl
  have := forM_clear (chk := chk) (P := N.map fun n => (n, ([] : List Int))) hb hk hσ (S := S) (fun p hp => by
    obtain ⟨n, hn, rfl⟩ := List.mem_map.mp hp
    exact hr n hn) (fun S' h => hc S' (by rw [a1] at h; exact h))
  rw [a1, a2] at this
  exact this
theorem cutM_tup1 {S : Sto} {tp : Nat} {v : V} {xs : List V} (h : S[tp]? = some (.tup (v :: xs))) : cutM (.ref tp) (some 1) none S = .ok (.ref S.length) (S ++ [.tup xs]) := by
  have h1 : rdL (.ref tp) S = none := by simp [rdL, h]
  have hc := cutV_drop (v :: xs) 1
  simp only [cutM, h1, rdT_tup h]
  rw [if_neg (fun z => by
    have z := z.1
    rw [show (1 : Int) = ((1 : Nat) : Int) from rfl, HT.sIx_nat] at z
    simp at z)]
  rw [show (1 : Int) = ((1 : Nat) : Int) from rfl, hc]
  rfl

structure Sm3 (S : Sto) (sm r c : Nat) (rows cols : List Int) : Prop where
  top : S[sm]? = some (.lst [.ref r, .ref c])
  kr : S[r]? = some (.lst (rows.map V.int))
  kc : S[c]? = some (.lst (cols.map V.int))
theorem Sm3.up {S S' : Sto} {sm r c : Nat} {rows cols : List Int} (k : Sm3 S sm r c rows cols) (u : Up [] S S') : Sm3 S' sm r c rows cols := ⟨u.get k.top, u.get k.kr, u.get k.kc⟩
theorem Sm3.ix {S : Sto} {sm r c : Nat} {rows cols : List Int} (k : Sm3 S sm r c rows cols) : ixQ (.ref sm) (.int 0) S = .ok (.ref r) S ∧ ixQ (.ref sm) (.int 1) S = .ok (.ref c) S := ⟨ixQ_at (k := 0) (rdLT_lst k.top) rfl, ixQ_at (k := 1) (rdLT_lst k.top) rfl⟩
theorem Sm3.copies {S : Sto} {sm r c : Nat} {rows cols : List Int} (k : Sm3 S sm r c rows cols) : listM [.ref r] S = .ok (.ref S.length) (S ++ [.lst (rows.map V.int)]) ∧ ixQ (.ref sm) (.int 1) (S ++ [.lst (rows.map V.int)]) = .ok (.ref c) (S ++ [.lst (rows.map V.int)]) ∧ listM [.ref c] (S ++ [.lst (rows.map V.int)]) = .ok (.ref (S ++ [Ob.lst (rows.map V.int)]).length) (S ++ [.lst (rows.map V.int)] ++ [.lst (cols.map V.int)]) ∧ Up [] S (S ++ [.lst (rows.map V.int)] ++ [.lst (cols.map V.int)]) ∧
    Up [] S (S ++ [.lst (rows.map V.int)] ++ [.lst (cols.map V.int)] ++ [.lst [.ref S.length, .ref (S ++ [Ob.lst (rows.map V.int)]).length]]) ∧ Sm3 (S ++ [.lst (rows.map V.int)] ++ [.lst (cols.map V.int)] ++ [.lst [.ref S.length, .ref (S ++ [Ob.lst (rows.map V.int)]).length]]) (S ++ [Ob.lst (rows.map V.int)] ++ [Ob.lst (cols.map V.int)]).length S.length (S ++ [Ob.lst (rows.map V.int)]).length rows cols := by
  have w1 := Up.app [] S [.lst (rows.map V.int)]
  have w2 := Up.app [] (S ++ [.lst (rows.map V.int)]) [.lst (cols.map V.int)]
  have w3 := Up.app [] (S ++ [.lst (rows.map V.int)] ++ [.lst (cols.map V.int)]) [.lst [.ref S.length, .ref (S ++ [Ob.lst (rows.map V.int)]).length]]
  exact ⟨listM_at (rdLT_lst k.kr), ((k.up w1).ix).2, listM_at (rdLT_lst (w1.get k.kc)), w1.trans w2, (w1.trans w2).trans w3, snew _ _, w3.get (w2.get (snew _ _)), w3.get (snew _ _)⟩
theorem Sm3.dat {S : Sto} {sm r c : Nat} {rows cols : List Int} (k : Sm3 S sm r c rows cols) : toD 5 S (.ref sm) = some (.list [dRow rows, dRow cols]) := toD_lst2 k.top (toD_row k.kr 2) (toD_row k.kc 2)
theorem sh_sm (rows cols : List Int) : SeqAt.shaped (.list [dRow rows, dRow cols]) = true := shaped_two (k := 3) (lay_dRow _) (lay_dRow _) (Nat.le_trans (depth_row _) (by omega)) (Nat.le_trans (depth_row _) (by omega))
theorem place_no {S : Sto} {a b ce : Nat} {rows cols : List Int} {x y : Int} (ha : S[a]? = some (.lst (rows.map V.int))) (hb : S[b]? = some (.lst (cols.map V.int))) (hce : S[ce]? = some (.tup [.int x, .int y])) (bad : ¬ (0 ≤ x ∧ x < rows.length ∧ 0 ≤ y ∧ y < cols.length)) : r_fate_of [.ref a, .ref b, .ref ce] S = .exc "NoPlace" S := by
  have x0 : ixQ (.ref ce) (.int 0) S = .ok (.int x) S := ixQ_at (k := 0) (rdLT_tup hce) rfl
  have x1 : ixQ (.ref ce) (.int 1) S = .ok (.int y) S := ixQ_at (k := 1) (rdLT_tup hce) rfl
  have lr : lenM [.ref a] S = .ok (.int (rows.length : Int)) S := by rw [lenM_at (rdLT_lst ha), List.length_map]
  have lc : lenM [.ref b] S = .ok (.int (cols.length : Int)) S := by rw [lenM_at (rdLT_lst hb), List.length_map]
  by_cases c1 : 0 ≤ x
  · by_cases c2 : x < (rows.length : Int)
    · by_cases c3 : 0 ≤ y
      · have c4 : ¬ y < (cols.length : Int) := fun z => bad ⟨c1, c2, c3, z⟩
        simp (decide := true) only [ev, ex9, exA, exB, exD, decide_true, decide_false, Bool.not_true, Bool.not_false, not_true, not_false_iff, eq_self, List.length_map, if_true, if_false, Bool.false_eq_true, r_fate_of_eq, c_fate_of, x0, x1, lr, lc, c1, c2, c3, c4]
      · simp (decide := true) only [ev, ex9, exA, exB, exD, decide_true, decide_false, Bool.not_true, Bool.not_false, not_true, not_false_iff, eq_self, List.length_map, if_true, if_false, Bool.false_eq_true, r_fate_of_eq, c_fate_of, x0, x1, lr, lc, c1, c2, c3]
    · simp (decide := true) only [ev, ex9, exA, exB, exD, decide_true, decide_false, Bool.not_true, Bool.not_false, not_true, not_false_iff, eq_self, List.length_map, if_true, if_false, Bool.false_eq_true, r_fate_of_eq, c_fate_of, x0, x1, lr, lc, c1, c2]
  · simp (decide := true) only [ev, ex9, exA, exB, exD, decide_true, decide_false, Bool.not_true, Bool.not_false, not_true, not_false_iff, eq_self, List.length_map, if_true, if_false, Bool.false_eq_true, r_fate_of_eq, c_fate_of, x0, x1, lr, lc, c1]
theorem seen44 {S S1 : Sto} {hd a b ce : Nat} {rows cols : List Int} {cl : String} {n : Int} (k : Sm3 S hd a b rows cols) (hcl : cl = "NoPlace" ∧ n = 1 ∨ cl = "NoSums" ∧ n = 2) (e1 : r_fate_of [.ref a, .ref b, .ref ce] S = .exc cl S1) :
    r__law_seen [.ref hd, .ref ce] S = .ok (.int n) S1 := by
  obtain ⟨x0, x1⟩ := k.ix
  rcases hcl with ⟨rfl, rfl⟩ | ⟨rfl, rfl⟩
  · have hu : ∀ σ, u__law_seen_2 "NoPlace" σ = σ.set 2 (some (.int 1)) := fun σ => by
      have h1 : fAny ["NoTable", "NoBottom", "NotAlike", "NoStep", "NoMix", "NotEven"] "NoPlace" = false := by decide
      have h2 : fAny ["NoSwap", "NoBounds", "TooGreat", "NoNumber", "NoText"] "NoPlace" = false := by decide
      have h3 : subE "NoPlace" "NoSums" = false := by decide
      simp only [u__law_seen_2, uSeq, uAddMul, uNil, h1, h2, h3, Bool.false_eq_true, if_false, Bool.or_self]
      rfl
    simp (decide := true) only [ev, ex9, exA, exB, exD, decide_true, decide_false, Bool.not_true, Bool.not_false, not_true, not_false_iff, eq_self, List.length_map, if_true, if_false, Bool.false_eq_true, r__law_seen_eq, c__law_seen, x0, x1, sTryM_eq, e1]
    rw [kTrM_rs (by decide), clGo_nm (by simp) (by decide), hu]
    simp (decide := true) only [ev, ex9, exA, exB, exD, decide_true, decide_false, Bool.not_true, Bool.not_false, not_true, not_false_iff, eq_self, List.length_map, if_true, if_false, Bool.false_eq_true]
  · have hu : ∀ σ, u__law_seen_1 "NoSums" σ = σ.set 2 (some (.int 2)) := fun σ => by
      have h1 : fAny ["NoTable", "NoBottom", "NotAlike", "NoStep", "NoMix", "NotEven"] "NoSums" = false := by decide
      have h2 : fAny ["NoSwap", "NoBounds", "TooGreat", "NoNumber", "NoText"] "NoSums" = false := by decide
      have h3 : subE "NoSums" "NoPlace" = false := by decide
      simp only [u__law_seen_1, uSeq, uAddMul, uNil, h1, h2, h3, Bool.false_eq_true, if_false, Bool.or_self]
      rfl
    simp (decide := true) only [ev, ex9, exA, exB, exD, decide_true, decide_false, Bool.not_true, Bool.not_false, not_true, not_false_iff, eq_self, List.length_map, if_true, if_false, Bool.false_eq_true, r__law_seen_eq, c__law_seen, x0, x1, sTryM_eq, e1]
    rw [kTrM_rs (by decide), clGo_nm_no (by simp) (by decide), clGo_nm (by simp) (by decide), hu]
    simp (decide := true) only [ev, ex9, exA, exB, exD, decide_true, decide_false, Bool.not_true, Bool.not_false, not_true, not_false_iff, eq_self, List.length_map, if_true, if_false, Bool.false_eq_true]
theorem caught44 {S S1 : Sto} {hd a b ce : Nat} {rows cols : List Int} {cl : String} (k : Sm3 S hd a b rows cols) (hcl : cl = "NoPlace" ∨ cl = "NoSums") (e1 : r_fate_of [.ref a, .ref b, .ref ce] S = .exc cl S1) :
    r__law_caught [.ref hd, .ref ce] S = .ok (.bl true) S1 := by
  obtain ⟨x0, x1⟩ := k.ix
  rcases hcl with rfl | rfl
  · simp (decide := true) only [ev, ex9, exA, exB, exD, decide_true, decide_false, Bool.not_true, Bool.not_false, not_true, not_false_iff, eq_self, List.length_map, if_true, if_false, Bool.false_eq_true, r__law_caught_eq, c__law_caught, x0, x1, sTryR_eq, e1]
    rw [kTrR_rs (by decide) (by decide) (by simp)]
    simp (decide := true) only [ev, ex9, exA, exB, exD, decide_true, decide_false, Bool.not_true, Bool.not_false, not_true, not_false_iff, eq_self, List.length_map, if_true, if_false, Bool.false_eq_true, fYes]
  · simp (decide := true) only [ev, ex9, exA, exB, exD, decide_true, decide_false, Bool.not_true, Bool.not_false, not_true, not_false_iff, eq_self, List.length_map, if_true, if_false, Bool.false_eq_true, r__law_caught_eq, c__law_caught, x0, x1, sTryR_eq, e1]
    rw [kTrR_rs (by decide) (by decide) (by simp)]
    simp (decide := true) only [ev, ex9, exA, exB, exD, decide_true, decide_false, Bool.not_true, Bool.not_false, not_true, not_false_iff, eq_self, List.length_map, if_true, if_false, Bool.false_eq_true, fYes]
theorem refused44 {S : Sto} {sm r c ce : Nat} {rows cols : List Int} {cl : String} {n : Int} (k : Sm3 S sm r c rows cols) (hcl : cl = "NoPlace" ∧ n = 1 ∨ cl = "NoSums" ∧ n = 2)
    (hn : ∀ (S' : Sto) (a b : Nat), Up [] S S' → S'[a]? = some (.lst (rows.map V.int)) → S'[b]? = some (.lst (cols.map V.int)) → ∃ S'', r_fate_of [.ref a, .ref b, .ref ce] S' = .exc cl S'' ∧ Up [] S' S'') :
    ∃ S', r__law_refused [.ref sm, .ref ce, .int n] S = .ok (.bl true) S' ∧ Up [] S S' := by
  obtain ⟨x0, _⟩ := k.ix
  obtain ⟨a1, a2, a3, _, a5, k6⟩ := k.copies
  obtain ⟨S1, e1, u1⟩ := hn _ _ _ a5 k6.kr k6.kc
  have k7 := k6.up u1
  obtain ⟨S2, e2, u2⟩ := hn _ _ _ (a5.trans u1) k7.kr k7.kc
  have h1 := seen44 k6 hcl e1
  have h2 := caught44 k7 (hcl.imp And.left And.left) e2
  have hq := eqM_same ((k7.up u2).dat) ((k.up ((a5.trans u1).trans u2)).dat) (sh_sm rows cols)
  simp (decide := true) only [ev, ex9, exA, exB, exD, decide_true, decide_false, Bool.not_true, Bool.not_false, not_true, not_false_iff, eq_self, List.length_map, if_true, if_false, Bool.false_eq_true, r__law_refused_eq, c__law_refused, x0, a1, a2, a3, h1, h2, hq]
  exact ⟨S2, rfl, (a5.trans u1).trans u2⟩
theorem sum_set : ∀ (l : List Int) (i : Nat) (v : Int), i < l.length → (l.set i v).sum = l.sum + v - l.getD i 0
  | [], i, v, h => absurd h (Nat.not_lt_zero _)
  | x :: l, 0, v, _ => by
    rw [List.set_cons_zero, List.sum_cons, List.sum_cons]
    show v + l.sum = x + l.sum + v - x
    omega
  | x :: l, i + 1, v, h => by
    have := sum_set l i v (by simpa using h)
    rw [List.set_cons_succ, List.sum_cons, List.sum_cons, this]
    show x + (l.sum + v - l.getD i 0) = x + l.sum + v - l.getD i 0
    omega
theorem spoiled44 {S : Sto} {sm r c : Nat} {rows cols : List Int} {n : Int} (k : Sm3 S sm r c rows cols) (h1 : 1 ≤ rows.length) (w1 : 1 ≤ cols.length) (hs : rows.sum = cols.sum) :
    ∃ (S' : Sto) (s2 r2 c2 : Nat) (rows2 cols2 : List Int), r__law_spoiled [.ref sm, .int n] S = .ok (.ref s2) S' ∧ Up [] S S' ∧ Sm3 S' s2 r2 c2 rows2 cols2 ∧ rows2.length = rows.length ∧ cols2.length = cols.length ∧ ∀ X, ¬ OnesOf X (fun i => rows2.getD i 0) (fun j => cols2.getD j 0) rows.length cols.length := by
  obtain ⟨x0, _⟩ := k.ix
  obtain ⟨a1, a2, a3, a4, _⟩ := k.copies
  have kr := (Up.app [] (S ++ [.lst (rows.map V.int)]) [.lst (cols.map V.int)]).get (snew S (.lst (rows.map V.int)))
  have kc := snew (S ++ [.lst (rows.map V.int)]) (.lst (cols.map V.int))
  have hne : S.length ≠ (S ++ [Ob.lst (rows.map V.int)]).length := by simp
  have hgc : S.length ≤ (S ++ [Ob.lst (rows.map V.int)]).length := by simp
  have lr : lenM [.ref S.length] (S ++ [.lst (rows.map V.int)] ++ [.lst (cols.map V.int)]) = .ok (.int (rows.length : Int)) (S ++ [.lst (rows.map V.int)] ++ [.lst (cols.map V.int)]) := by rw [lenM_at (rdLT_lst kr), List.length_map]
  have b0 := Int.emod_nonneg (n / 2) (show (rows.length : Int) ≠ 0 by omega)
  have b1 := Int.emod_lt_of_pos (n / 2) (show (0 : Int) < rows.length by omega)
  obtain ⟨i, hi⟩ := Int.eq_ofNat_of_zero_le b0
  rw [hi] at b1
  simp (decide := true) only [ev, ex9, exA, exB, exD, decide_true, decide_false, Bool.not_true, Bool.not_false, not_true, not_false_iff, eq_self, List.length_map, if_true, if_false, Bool.false_eq_true, r__law_spoiled_eq, c__law_spoiled, x0, a1, a2, a3, lr, modM_pos (i := n / 2) (j := (rows.length : Int)) (by omega), hi]
  generalize S ++ [Ob.lst (rows.map V.int)] ++ [Ob.lst (cols.map V.int)] = S2 at a4 kr kc lr ⊢
  generalize hcn : (S ++ [Ob.lst (rows.map V.int)]).length = cn at kc hne hgc ⊢
  generalize hrn : S.length = rn at kr hne hgc ⊢
  have y1 := rix (i := (i : Int)) kr (by omega) (by omega)
  rw [Int.toNat_natCast] at y1
  by_cases hp : n % 2 = 0
  · have st := setL_I (i := (i : Int)) (v := rows.getD i 0 + 1) kr (by omega) (by omega)
    rw [Int.toNat_natCast] at st
    simp (decide := true) only [ev, ex9, exA, exB, exD, decide_true, decide_false, Bool.not_true, Bool.not_false, not_true, not_false_iff, eq_self, List.length_map, if_true, if_false, Bool.false_eq_true, hp, y1, st]
    have k1 := sset_same (o := .lst ((rows.set i (rows.getD i 0 + 1)).map V.int)) kr
    have k2 : (S2.set rn (.lst ((rows.set i (rows.getD i 0 + 1)).map V.int)))[cn]? = some (.lst (cols.map V.int)) := by rw [sset_ne hne.symm]; exact kc
    have uS := a4.setNew (n := rn) (by omega) (.lst ((rows.set i (rows.getD i 0 + 1)).map V.int))
    have v := Up.app [] (S2.set rn (.lst ((rows.set i (rows.getD i 0 + 1)).map V.int))) [.lst [.ref rn, .ref cn]]
    refine ⟨_, _, rn, cn, rows.set i (rows.getD i 0 + 1), cols, rfl, uS.trans v, ⟨snew _ _, v.get k1, v.get k2⟩, List.length_set .., rfl, fun X o => ?_⟩
    have := o.sums (List.length_set ..) rfl
    rw [sum_set _ _ _ (by omega)] at this
    omega
  · have lc : lenM [.ref cn] S2 = .ok (.int (cols.length : Int)) S2 := by rw [lenM_at (rdLT_lst kc), List.length_map]
    have d0 := Int.emod_nonneg (n / 16) (show (cols.length : Int) ≠ 0 by omega)
    have d1 := Int.emod_lt_of_pos (n / 16) (show (0 : Int) < cols.length by omega)
    obtain ⟨j, hj⟩ := Int.eq_ofNat_of_zero_le d0
    rw [hj] at d1
    have y2 := rix (i := (j : Int)) kc (by omega) (by omega)
    rw [Int.toNat_natCast] at y2
    have st := setL_I (i := (j : Int)) (v := cols.getD j 0 + (cols.length : Int) + 1 - rows.getD i 0) kc (by omega) (by omega)
    rw [Int.toNat_natCast] at st
    simp (decide := true) only [ev, ex9, exA, exB, exD, decide_true, decide_false, Bool.not_true, Bool.not_false, not_true, not_false_iff, eq_self, List.length_map, if_true, if_false, Bool.false_eq_true, hp, lc, modM_pos (i := n / 16) (j := (cols.length : Int)) (by omega), hj, y2, y1, st]
    have k1 : (S2.set cn (.lst ((cols.set j (cols.getD j 0 + (cols.length : Int) + 1 - rows.getD i 0)).map V.int)))[rn]? = some (.lst (rows.map V.int)) := by rw [sset_ne hne]; exact kr
    have k2 := sset_same (o := .lst ((cols.set j (cols.getD j 0 + (cols.length : Int) + 1 - rows.getD i 0)).map V.int)) kc
    have uS := a4.setNew (n := cn) (by omega) (.lst ((cols.set j (cols.getD j 0 + (cols.length : Int) + 1 - rows.getD i 0)).map V.int))
    have hcl : (cols.set j (cols.getD j 0 + (cols.length : Int) + 1 - rows.getD i 0)).length = cols.length := List.length_set ..
    generalize cols.set j (cols.getD j 0 + (cols.length : Int) + 1 - rows.getD i 0) = cols2 at k1 k2 uS hcl ⊢
    generalize S2.set cn (.lst (cols2.map V.int)) = S3 at k1 k2 uS ⊢
    have lc3 : lenM [.ref cn] S3 = .ok (.int (cols.length : Int)) S3 := by rw [lenM_at (rdLT_lst k2), List.length_map, hcl]
    have st2 := setL_I (i := (i : Int)) (v := (cols.length : Int) + 1) k1 (by omega) (by omega)
    rw [Int.toNat_natCast] at st2
    simp (decide := true) only [ev, ex9, exA, exB, exD, decide_true, decide_false, Bool.not_true, Bool.not_false, not_true, not_false_iff, eq_self, List.length_map, if_true, if_false, Bool.false_eq_true, lc3, st2]
    have k3 := sset_same (o := .lst ((rows.set i ((cols.length : Int) + 1)).map V.int)) k1
    have k4 : (S3.set rn (.lst ((rows.set i ((cols.length : Int) + 1)).map V.int)))[cn]? = some (.lst (cols2.map V.int)) := by rw [sset_ne hne.symm]; exact k2
    have uT := uS.setNew (n := rn) (by omega) (.lst ((rows.set i ((cols.length : Int) + 1)).map V.int))
    have v := Up.app [] (S3.set rn (.lst ((rows.set i ((cols.length : Int) + 1)).map V.int))) [.lst [.ref rn, .ref cn]]
    refine ⟨_, _, rn, cn, rows.set i ((cols.length : Int) + 1), cols2, rfl, uT.trans v, ⟨snew _ _, v.get k3, v.get k4⟩, List.length_set .., hcl, fun X o => ?_⟩
    have e := o.rs i (by omega)
    have hle : sumR cols.length (fun j => cl X i j) ≤ sumR cols.length (fun _ => 1) := sumR_le fun j _ => by rcases o.ones.cl (i := i) (j := j) with h | h <;> omega
    have hone : sumR cols.length (fun _ => 1) = (cols.length : Int) := by
      unfold sumR
      rw [msum_const]
      simp
    have hg : (rows.set i ((cols.length : Int) + 1)).getD i 0 = (cols.length : Int) + 1 := by
      rw [List.getD_eq_getElem?_getD, List.getElem?_set_self (by omega)]; rfl
    rw [hg] at e
    omega
theorem odd44 {S : Sto} {sm r c : Nat} {rows cols : List Int} {n : Int} (k : Sm3 S sm r c rows cols) (h1 : 1 ≤ rows.length) (h8 : rows.length ≤ 8) (w1 : 1 ≤ cols.length) (w8 : cols.length ≤ 8) :
    ∃ (S' : Sto) (ce : Nat) (x y : Int), r__law_odd [.ref sm, .int n] S = .ok (.ref ce) S' ∧ Up [] S S' ∧ S'[ce]? = some (.tup [.int x, .int y]) ∧ ¬ (0 ≤ x ∧ x < rows.length ∧ 0 ≤ y ∧ y < cols.length) := by
  obtain ⟨x0, x1⟩ := k.ix
  have lr : lenM [.ref r] S = .ok (.int (rows.length : Int)) S := by rw [lenM_at (rdLT_lst k.kr), List.length_map]
  have lc : lenM [.ref c] S = .ok (.int (cols.length : Int)) S := by rw [lenM_at (rdLT_lst k.kc), List.length_map]
  have e18 : (10 : Int) ^ Int.toNat 18 = 1000000000000000000 := by decide +kernel
  obtain ⟨i, hi⟩ := Int.eq_ofNat_of_zero_le (Int.emod_nonneg n (show (6 : Int) ≠ 0 by omega))
  have hi6 : i < 6 := by omega
  obtain ⟨j, hj⟩ := Int.eq_ofNat_of_zero_le (Int.emod_nonneg (n / 6) (show (4 : Int) ≠ 0 by omega))
  have hj4 : j < 4 := by omega
  have v1 := Up.app [] S [.lst [.int (n / 16 % (rows.length : Int)), .int (-1), .int (0 - (rows.length : Int)), .int (rows.length : Int), .int 1000000000000000000, .int (0 - 1000000000000000000)]]
  have g1 := snew S (.lst [.int (n / 16 % (rows.length : Int)), .int (-1), .int (0 - (rows.length : Int)), .int (rows.length : Int), .int 1000000000000000000, .int (0 - 1000000000000000000)])
  obtain ⟨x, hx, hxb⟩ : ∃ x : Int, ([.int (n / 16 % (rows.length : Int)), .int (-1), .int (0 - (rows.length : Int)), .int (rows.length : Int), .int 1000000000000000000, .int (0 - 1000000000000000000)] : List V)[i]? = some (.int x) ∧ (0 < i → ¬ (0 ≤ x ∧ x < rows.length)) := by
    match i, hi6 with
    | 0, _ => exact ⟨_, rfl, fun h => absurd h (Nat.lt_irrefl _)⟩
    | 1, _ => exact ⟨_, rfl, fun _ => by omega⟩
    | 2, _ => exact ⟨_, rfl, fun _ => by omega⟩
    | 3, _ => exact ⟨_, rfl, fun _ => by omega⟩
    | 4, _ => exact ⟨_, rfl, fun _ => by omega⟩
    | 5, _ => exact ⟨_, rfl, fun _ => by omega⟩
  have ix1 := ixQ_at (rdLT_lst g1) hx
  simp (decide := true) only [ev, ex9, exA, exB, exD, decide_true, decide_false, Bool.not_true, Bool.not_false, not_true, not_false_iff, eq_self, List.length_map, if_true, if_false, Bool.false_eq_true, r__law_odd_eq, c__law_odd, x0, x1, lr, lc, modM_pos (i := n / 16) (j := (rows.length : Int)) (by omega), e18, hi, ix1]
  have k1 := k.up v1
  generalize S ++ [Ob.lst [V.int (n / 16 % (rows.length : Int)), V.int (-1), V.int (0 - (rows.length : Int)), V.int (rows.length : Int), V.int 1000000000000000000, V.int (0 - 1000000000000000000)]] = S1 at v1 k1 ⊢
  by_cases hp : (i : Int) > 0
  · have v2 := Up.app [] S1 [.tup [.int x, .int (n / 128 % (cols.length : Int))]]
    simp (decide := true) only [ev, ex9, exA, exB, exD, decide_true, decide_false, Bool.not_true, Bool.not_false, not_true, not_false_iff, eq_self, List.length_map, if_true, if_false, Bool.false_eq_true, hp, modM_pos (i := n / 128) (j := (cols.length : Int)) (by omega)]
    exact ⟨_, _, x, n / 128 % (cols.length : Int), rfl, v1.trans v2, snew _ _, fun z => hxb (by omega) ⟨z.1, z.2.1⟩⟩
  · have v2 := Up.app [] S1 [.lst [.int (-1), .int (cols.length : Int), .int (0 - (cols.length : Int)), .int ((cols.length : Int) + 1)]]
    have g2 := snew S1 (.lst [.int (-1), .int (cols.length : Int), .int (0 - (cols.length : Int)), .int ((cols.length : Int) + 1)])
    obtain ⟨y, hy, hyb⟩ : ∃ y : Int, ([.int (-1), .int (cols.length : Int), .int (0 - (cols.length : Int)), .int ((cols.length : Int) + 1)] : List V)[j]? = some (.int y) ∧ ¬ (0 ≤ y ∧ y < cols.length) := by
      match j, hj4 with
      | 0, _ => exact ⟨_, rfl, by omega⟩
      | 1, _ => exact ⟨_, rfl, by omega⟩
      | 2, _ => exact ⟨_, rfl, by omega⟩
      | 3, _ => exact ⟨_, rfl, by omega⟩
    have ix2 := ixQ_at (rdLT_lst g2) hy
    simp (decide := true) only [ev, ex9, exA, exB, exD, decide_true, decide_false, Bool.not_true, Bool.not_false, not_true, not_false_iff, eq_self, List.length_map, if_true, if_false, Bool.false_eq_true, hp, hj, ix2]
    exact ⟨_, _, x, y, rfl, (v1.trans v2).trans (Up.app _ _ _), snew _ _, fun z => hyb ⟨z.2.2.1, z.2.2.2⟩⟩
theorem frame44 {S : Sto} {sm r c ce i j : Nat} {rows cols : List Int} {v x : Int} (k : Sm3 S sm r c rows cols) (hce : S[ce]? = some (.tup [.int (i : Int), .int (j : Int)])) (hi : i < rows.length) (hj : j < cols.length) :
    ∃ (S' : Sto) (b : Nat) (P : Rws), r__law_frame [.ref sm, .int v, .ref ce, .int x] S = .ok (.ref b) S' ∧ Up [] S S' ∧ Tb S' b P ∧ P.length = rows.length ∧ rowsOf P = cellT rows.length cols.length i j v x := by
  obtain ⟨y0, y1⟩ := k.ix
  obtain ⟨P, S1, e1, u1, hP, f1⟩ := compM_tbl (S0 := S) (xs := rows) (chk := chkL (.ref r) (rows.map V.int)) (tg := gI1 6) (te := e__law_frame_1) (σ := [some (.ref sm), some (.int v), some (.ref ce), some (.int x), none, none, none]) oneI (fun _ => cols.map fun _ => v) (fun _ u => chkL_of (rdL_lst (u.get k.kr))) (fun z _ S' p => ⟨_, gI1_one _ _ _ _, by
      have z1 := ((k.up p).ix).2
      have rc := rdL_lst (p.get k.kc)
      simp (decide := true) only [ev, ex9, exA, exB, exD, decide_true, decide_false, Bool.not_true, Bool.not_false, not_true, not_false_iff, eq_self, List.length_map, if_true, if_false, Bool.false_eq_true, e__law_frame_1, z1, rc, items_int]
      rw [compM_pure (α := Int) oneI (fun _ => .int v) (chkL_of rc) (fun x _ => ⟨_, gI1_one _ _ _ _, by simp (decide := true) only [ev, ex9, exA, exB, exD, decide_true, decide_false, Bool.not_true, Bool.not_false, not_true, not_false_iff, eq_self, List.length_map, if_true, if_false, Bool.false_eq_true]⟩)]
      simp (decide := true) only [ev, ex9, exA, exB, exD, decide_true, decide_false, Bool.not_true, Bool.not_false, not_true, not_false_iff, eq_self, List.length_map, if_true, if_false, Bool.false_eq_true, Re_ok]
      exact ⟨Up.app _ _ _, _, rfl, Nat.le_refl _, by rw [List.map_map]; exact snew _ _⟩⟩) S (Up.refl _ _)
  have n2 := snew S1 (.lst (P.map fun p => V.ref p.1))
  have u2 := Up.app [] S1 [.lst (P.map fun p => V.ref p.1)]
  have f2 := f1.up u2
  have t2 := f2.tb n2
  have u02 := u1.trans u2
  have hPT : rowsOf P = fullT rows.length cols.length v := by
    rw [hP]
    unfold fullT
    simp [List.map_const']
  have hPl : P.length = rows.length := by rw [← rows_len, hPT, fullT_len]
  simp (decide := true) only [ev, ex9, exA, exB, exD, decide_true, decide_false, Bool.not_true, Bool.not_false, not_true, not_false_iff, eq_self, List.length_map, if_true, if_false, Bool.false_eq_true, r__law_frame_eq, c__law_frame, y0, rdL_lst k.kr, items_int, e1]
  generalize S1 ++ [Ob.lst (P.map fun p => V.ref p.1)] = S2 at n2 u2 f2 t2 u02 ⊢
  generalize S1.length = b at n2 t2 ⊢
  have k2 := u02.get hce
  have x0 : ixQ (.ref ce) (.int 0) S2 = .ok (.int (i : Int)) S2 := ixQ_at (k := 0) (rdLT_tup k2) rfl
  have x1 : ixQ (.ref ce) (.int 1) S2 = .ok (.int (j : Int)) S2 := ixQ_at (k := 1) (rdLT_tup k2) rfl
  obtain ⟨nm, hm, z1, _, _, st⟩ := cell_at (i := (i : Int)) (j := (j : Int)) t2 f2.nod (by rw [hPT]; exact fullT_rect rows.length cols.length v) (by omega) (by omega) (by omega) (by omega)
  obtain ⟨S3, Q, e3, u3, t3, n3, q3⟩ := st x
  rw [Int.toNat_natCast, Int.toNat_natCast, hPT] at q3
  simp (decide := true) only [ev, ex9, exA, exB, exD, decide_true, decide_false, Bool.not_true, Bool.not_false, not_true, not_false_iff, eq_self, List.length_map, if_true, if_false, Bool.false_eq_true, x0, z1, x1, e3]
  refine ⟨S3, b, Q, rfl, u02.new' u3 (fun m hm => ?_), t3, by have := congrArg List.length n3; simpa [hPl] using this, q3⟩
  obtain ⟨p, hp, e⟩ := List.mem_map.mp hm
  rw [← e]; exact f2.new p hp
/-- the sums that a table must have -/
structure SmT (T : List (List Int)) (rows cols : List Int) : Prop where
  r : T.map List.sum = rows
  c : (turn T).map List.sum = cols
theorem lies44 {S : Sto} {sm r c ce q i j : Nat} {rows cols : List Int} {Q : Rws} {x : Int} (k : Sm3 S sm r c rows cols) (hce : S[ce]? = some (.tup [.int (i : Int), .int (j : Int)])) (hi : i < rows.length) (hj : j < cols.length) (t : Tb S q Q) (hl : Q.length = rows.length) (hR : Rect cols.length (rowsOf Q)) (hO : Ones (rowsOf Q)) (hs : SmT (rowsOf Q) rows cols) (w8 : cols.length ≤ 8) (hx : cl (rowsOf Q) i j = x) :
    ∃ S', r__law_lies [.ref q, .ref sm, .ref ce, .int x] S = .ok (.bl true) S' ∧ Up [] S S' := by
  obtain ⟨y0, y1⟩ := k.ix
  have lr : lenM [.ref r] S = .ok (.int (rows.length : Int)) S := by rw [lenM_at (rdLT_lst k.kr), List.length_map]
  simp (decide := true) only [ev, ex9, exA, exB, exD, decide_true, decide_false, Bool.not_true, Bool.not_false, not_true, not_false_iff, eq_self, List.length_map, if_true, if_false, Bool.false_eq_true, r__law_lies_eq, c__law_lies, isi_list t.top, t.len, hl, y0, lr, t.rd, items_tb]
  obtain ⟨S1, e1, u1⟩ := forM_at (chk := chkL (.ref q) (Q.map fun p => V.ref p.1)) (tg := gI1 4) (ws := [4, 5]) (body := b__law_lies_2) (xs := Q) oneP
    (fun _ => [some (.ref q), some (.ref sm), some (.ref ce), some (.int x), none, none]) (fun i S' => Up [] S S') (fun _ _ u => chkL_of (t.up u).rd)
    (fun a p S' hp u => by
      have hpm := List.mem_of_getElem? hp
      have rp := (t.up u).row p hpm
      have hpl := rect_of hR hpm
      have z1 := ((k.up u).ix).2
      have lc : lenM [.ref c] S' = .ok (.int (cols.length : Int)) S' := by rw [lenM_at (rdLT_lst (u.get k.kc)), List.length_map]
      have lp : lenM [.ref p.1] S' = .ok (.int (cols.length : Int)) S' := by rw [lenM_at (rdLT_lst rp), List.length_map, hpl]
      refine ⟨_, gI1_one _ _ _ _, ?_⟩
      simp (decide := true) only [ev, ex9, exA, exB, exD, decide_true, decide_false, Bool.not_true, Bool.not_false, not_true, not_false_iff, eq_self, List.length_map, if_true, if_false, Bool.false_eq_true, b__law_lies_2, isi_list rp, z1, lc, lp, rdL_lst rp, items_int]
      obtain ⟨S2, e2, u2⟩ := forM_at (chk := chkL (.ref p.1) (p.2.map V.int)) (tg := gI1 5) (ws := [5]) (body := b__law_lies_1) (xs := p.2) oneI
        (fun _ => [some (.ref q), some (.ref sm), some (.ref ce), some (.int x), some (.ref p.1), none]) (fun i S2 => Up [] S' S2) (fun _ _ u => chkL_of (rdL_lst (u.get rp)))
        (fun b z S2 hz u2 => by
          have hzm := List.mem_of_getElem? hz
          have h01 := hO p.2 (List.mem_map_of_mem hpm) z hzm
          have g := snew S2 (.lst (([0, 1] : List Int).map V.int))
          have hin := inM_ints (rdLT_lst g) true z
          have hd : decide (z ∈ ([0, 1] : List Int)) = true := decide_eq_true (by simpa using h01)
          simp only [if_true, hd, Bool.not_true, List.map_cons, List.map_nil] at hin
          refine ⟨_, gI1_one _ _ _ _, ?_⟩
          simp (decide := true) only [ev, ex9, exA, exB, exD, decide_true, decide_false, Bool.not_true, Bool.not_false, not_true, not_false_iff, eq_self, List.length_map, if_true, if_false, Bool.false_eq_true, b__law_lies_1, whole_spec, hin, Tn_nx]
          exact ⟨trivial, u2.trans (Up.app _ _ _)⟩) (S := S') (Up.refl _ _)
      rw [e2]
      simp (decide := true) only [ev, ex9, exA, exB, exD, decide_true, decide_false, Bool.not_true, Bool.not_false, not_true, not_false_iff, eq_self, List.length_map, if_true, if_false, Bool.false_eq_true, Tn_nx]
      exact ⟨trivial, u.trans u2⟩) (S := S) (Up.refl _ _)
  rw [e1]
  have t1 := t.up u1
  obtain ⟨S2, b, r', c', e2, u2, _, tS, _⟩ := law_sums_spec t1 hR hl (by omega) (by omega)
  rw [hs.r, hs.c] at tS
  have k2 : Sm3 S2 b r' c' rows cols := ⟨tS.top, tS.row (r', rows) (by simp), tS.row (c', cols) (by simp)⟩
  have hq := eqM_same k2.dat ((k.up (u1.trans u2)).dat) (sh_sm rows cols)
  have kc2 := (u1.trans u2).get hce
  have x0 : ixQ (.ref ce) (.int 0) S2 = .ok (.int (i : Int)) S2 := ixQ_at (k := 0) (rdLT_tup kc2) rfl
  have x1 : ixQ (.ref ce) (.int 1) S2 = .ok (.int (j : Int)) S2 := ixQ_at (k := 1) (rdLT_tup kc2) rfl
  obtain ⟨nm, z1, z2⟩ := cell_rd (i := (i : Int)) (j := (j : Int)) (t1.up u2) hR (by omega) (by omega) (by omega) (by omega)
  have z2 := z2 (j : Int) (by omega) (by omega)
  rw [Int.toNat_natCast, Int.toNat_natCast, hx] at z2
  simp (decide := true) only [ev, ex9, exA, exB, exD, decide_true, decide_false, Bool.not_true, Bool.not_false, not_true, not_false_iff, eq_self, List.length_map, if_true, if_false, Bool.false_eq_true, e2, hq, x0, x1, z1, z2]
  exact ⟨S2, rfl, u1.trans u2⟩
theorem smT_of {X : List (List Int)} {rows cols : List Int} (o : OnesOf X (fun i => rows.getD i 0) (fun j => cols.getD j 0) rows.length cols.length) (h1 : 1 ≤ rows.length) : SmT X rows cols := by
  have s := onesOf_self o.len o.rect o.ones h1
  have hwd : wide X = cols.length := wide_of o.rect (fun z => by have := o.len; rw [z] at this; simp at this; omega)
  constructor
  · rw [rr_range (xs := X.map List.sum) (N := rows.length) (by rw [List.length_map, o.len])]
    refine (List.map_congr_left fun i hi => ?_).trans (rr_range (xs := rows) rfl).symm
    have hi := List.mem_range.mp hi
    exact (s.rs i hi).symm.trans (o.rs i hi)
  · rw [rr_range (xs := (turn X).map List.sum) (N := cols.length) (by rw [List.length_map, turn, List.length_map, List.length_range, hwd])]
    refine (List.map_congr_left fun j hj => ?_).trans (rr_range (xs := cols) rfl).symm
    have hj := List.mem_range.mp hj
    exact (s.cs j hj).symm.trans (o.cs j hj)
theorem isi_tup {S : Sto} {a : Nat} {xs : List V} (h : S[a]? = some (.tup xs)) : isiM [.ref a, .ty "tuple"] S = .ok (.bl true) S := by
  simp only [isiM, tyN, h, show isB "tuple" "tuple" = some true from rfl]
theorem right44 {S : Sto} {n0 sm r c ce tp i j : Nat} {rows cols : List Int} (k : Sm3 S sm r c rows cols) (hce : S[ce]? = some (.tup [.int (i : Int), .int (j : Int)])) (hi : i < rows.length) (hj : j < cols.length) (h8 : rows.length ≤ 8) (w8 : cols.length ≤ 8) (f : Fate S n0 tp (fun i => rows.getD i 0) (fun j => cols.getD j 0) rows.length cols.length i j) :
    ∃ S', r__law_right [.ref tp, .ref sm, .ref ce] S = .ok (.bl true) S' ∧ Up [] S S' := by
  have bars : ∀ {na nb : Nat} {A B : List Nat} {x : String} {v : Int}, CutW S n0 tp na nb A B x → CutI A B (fun i => rows.getD i 0) (fun j => cols.getD j 0) (cellT rows.length cols.length i j 0 v) (cellT rows.length cols.length i j 1 v) rows.length cols.length →
      ∃ (S1 S2 S3 : Sto) (b1 b2 : Nat), r__law_frame [.ref sm, .int 0, .ref ce, .int v] S = .ok (.ref b1) S1 ∧ ixQ (.ref tp) (.int 1) S1 = .ok (.ref na) S1 ∧ ixQ (.ref tp) (.int 2) S1 = .ok (.ref nb) S1 ∧ ixQ (.ref sm) (.int 0) S1 = .ok (.ref r) S1 ∧ ixQ (.ref sm) (.int 1) S1 = .ok (.ref c) S1 ∧ r__law_frame [.ref sm, .int 1, .ref ce, .int v] S1 = .ok (.ref b2) S2 ∧ r__law_bars [.ref na, .ref nb, .ref r, .ref c, .ref b1, .ref b2] S2 = .ok (.bl true) S3 ∧ Up [] S S3 := fun {na nb A B x v} kw C => by
    obtain ⟨S1, b1, P1, e1, u1, t1, l1, q1⟩ := frame44 (v := 0) (x := v) k hce hi hj
    obtain ⟨S2, b2, P2, e2, u2, t2, l2, q2⟩ := frame44 (v := 1) (x := v) (k.up u1) (u1.get hce) hi hj
    obtain ⟨z0, z1⟩ := (k.up u1).ix
    have kt := u1.get kw.1
    have u12 := u1.trans u2
    have rc : ∀ v' x', Rect cols.length (cellT rows.length cols.length i j v' x') := fun v' x' => setc_rect (fullT_rect _ _ _) (by rw [fullT_len]; exact hi) _ _
    obtain ⟨S3, e3, u3⟩ := bars_spec (u12.get kw.2.1) (u12.get kw.2.2.1) (u12.get k.kr) (u12.get k.kc) rfl rfl (t1.up u2) t2 (by rw [q1]; exact rc _ _) (by rw [q2]; exact rc _ _) l1 l2 (by omega) (by omega) (by rw [q1, q2]; exact C)
    exact ⟨S1, S2, S3, b1, b2, e1, ixQ_at (k := 1) (rdLT_tup kt) rfl, ixQ_at (k := 2) (rdLT_tup kt) rfl, z0, z1, e2, e3, u12.trans u3⟩
  cases f with
  | free q0 q1 Q0 Q1 m kt B0 B1 hn hq hQ =>
    have l3 : lenM [.ref tp] S = .ok (.int 3) S := lenM_at (rdLT_tup kt)
    have y0 : ixQ (.ref tp) (.int 0) S = .ok (.str (PySem.Str.ofString "free")) S := ixQ_at (k := 0) (rdLT_tup kt) rfl
    have y1 : ixQ (.ref tp) (.int 1) S = .ok (.ref q0) S := ixQ_at (k := 1) (rdLT_tup kt) rfl
    obtain ⟨o0, c0⟩ := B0.of0 hi hj
    obtain ⟨o1, c1⟩ := B1.of1 hi hj
    obtain ⟨S1, e1, u1⟩ := lies44 k hce hi hj B0.tb B0.len o0.rect o0.ones (smT_of o0 (by omega)) w8 c0
    have y2 : ixQ (.ref tp) (.int 2) S1 = .ok (.ref q1) S1 := ixQ_at (k := 2) (rdLT_tup (u1.get kt)) rfl
    obtain ⟨S2, e2, u2⟩ := lies44 (k.up u1) (u1.get hce) hi hj (B1.tb.up u1) B1.len o1.rect o1.ones (smT_of o1 (by omega)) w8 c1
    simp (decide := true) only [ev, ex9, exA, exB, exD, decide_true, decide_false, Bool.not_true, Bool.not_false, not_true, not_false_iff, eq_self, List.length_map, if_true, if_false, Bool.false_eq_true, r__law_right_eq, c__law_right, isi_tup kt, l3, y0, eqW_free, y1, e1, y2, e2]
    exact ⟨S2, rfl, u1.trans u2⟩
  | zero na nb A B kw C X o =>
    have kt := kw.1
    have l3 : lenM [.ref tp] S = .ok (.int 3) S := lenM_at (rdLT_tup kt)
    have y0 : ixQ (.ref tp) (.int 0) S = .ok (.str (PySem.Str.ofString "zero")) S := ixQ_at (k := 0) (rdLT_tup kt) rfl
    obtain ⟨S1, S2, S3, b1, b2, e1, y1, y2, z0, z1, e2, e3, u⟩ := bars (v := 1) kw C
    simp (decide := true) only [ev, ex9, exA, exB, exD, decide_true, decide_false, Bool.not_true, Bool.not_false, not_true, not_false_iff, eq_self, List.length_map, if_true, if_false, Bool.false_eq_true, r__law_right_eq, c__law_right, isi_tup kt, l3, y0, eqW_zero_free, eqW_zero, e1, y1, y2, z0, z1, e2, e3]
    exact ⟨S3, rfl, u⟩
  | one na nb A B kw C X o =>
    have kt := kw.1
    have l3 : lenM [.ref tp] S = .ok (.int 3) S := lenM_at (rdLT_tup kt)
    have y0 : ixQ (.ref tp) (.int 0) S = .ok (.str (PySem.Str.ofString "one")) S := ixQ_at (k := 0) (rdLT_tup kt) rfl
    obtain ⟨S1, S2, S3, b1, b2, e1, y1, y2, z0, z1, e2, e3, u⟩ := bars (v := 0) kw C
    simp (decide := true) only [ev, ex9, exA, exB, exD, decide_true, decide_false, Bool.not_true, Bool.not_false, not_true, not_false_iff, eq_self, List.length_map, if_true, if_false, Bool.false_eq_true, r__law_right_eq, c__law_right, isi_tup kt, l3, y0, eqW_one_free, eqW_one_zero, neW_one, e1, y1, y2, z0, z1, e2, e3]
    exact ⟨S3, rfl, u⟩
theorem apart44 {S : Sto} {m q0 q1 : Nat} {Q0 Q1 : Rws} (t0 : Tb S q0 Q0) (t1 : Tb S q1 Q1) (n0 : ∀ p ∈ Q0, m ≤ p.1) (n1 : ∀ p ∈ Q1, p.1 < m) (hq : q1 < m) :
    ∃ S', r__law_apart [.ref q0, .ref q1] S = .ok (.bl true) S' ∧ Up (Q0.map Prod.fst ++ Q1.map Prod.fst) S S' := by
  obtain ⟨H, S1, e1, u1, hH, f1⟩ := copy_tb (k := 3) (te := e__law_apart_1) (σ := [some (.ref q0), some (.ref q1), none, none]) rfl t1
  have u2 := Up.app [] S1 [.lst (H.map fun p => V.ref p.1)]
  have tH := (f1.up u2).tb (snew S1 (.lst (H.map fun p => V.ref p.1)))
  have fH := f1.up u2
  have hl1 := u1.len
  simp (decide := true) only [ev, ex9, exA, exB, exD, decide_true, decide_false, Bool.not_true, Bool.not_false, not_true, not_false_iff, eq_self, List.length_map, if_true, if_false, Bool.false_eq_true, r__law_apart_eq, c__law_apart, t1.rd, items_tb, e1]
  have u02 := u1.trans u2
  have t0' := t0.up u02
  have t1' := t1.up u02
  generalize S1 ++ [Ob.lst (H.map fun p => V.ref p.1)] = S2 at u2 tH fH u02 t0' t1' ⊢
  generalize hhl : S1.length = hl at tH hl1 ⊢
  have lt0 : ∀ x ∈ Q0.map Prod.fst, m ≤ x ∧ x < S.length := fun x hx => by
    obtain ⟨p, hp, rfl⟩ := List.mem_map.mp hx
    exact ⟨n0 p hp, t0.ltr hp⟩
  have lt1 : ∀ x ∈ Q1.map Prod.fst, x < m ∧ x < S.length := fun x hx => by
    obtain ⟨p, hp, rfl⟩ := List.mem_map.mp hx
    exact ⟨n1 p hp, t1.ltr hp⟩
  obtain ⟨S3, e3, u3⟩ := forM_clear (chk := chkL (.ref q0) (Q0.map fun p => V.ref p.1)) (k := 3) (body := b__law_apart_1) (σ := [some (.ref q0), some (.ref q1), some (.ref hl), none]) (P := Q0) rfl (by simp only [List.length_cons, List.length_nil]; decide) rfl (S := S2) (fun p hp => ⟨_, t0'.row p hp⟩) (fun S' u => chkL_of (rdL_lst (u.at' _ _ t0'.nin t0'.top)))
  have t1'' := t1'.upM u3 (fun h => by have := lt0 _ h; omega) (fun p hp h => by have := lt0 _ h; have := n1 p hp; omega)
  have tH'' := tH.upM u3 (fun h => by have := lt0 _ h; omega) (fun p hp h => by have := lt0 _ h; have := fH.new p hp; omega)
  have hq' := neM_tb t1'' tH''
  simp (decide := true) only [ev, ex9, exA, exB, exD, decide_true, decide_false, Bool.not_true, Bool.not_false, not_true, not_false_iff, eq_self, List.length_map, if_true, if_false, Bool.false_eq_true, t0'.rd, items_tb, e3, hq', hH]
  obtain ⟨S4, e4, u4⟩ := forM_clear (chk := chkL (.ref q1) (Q1.map fun p => V.ref p.1)) (k := 3) (body := b__law_apart_2) (σ := [some (.ref q0), some (.ref q1), some (.ref hl), none]) (P := Q1) rfl (by simp only [List.length_cons, List.length_nil]; decide) rfl (S := S3) (fun p hp => ⟨_, t1''.row p hp⟩) (fun S' u => chkL_of (rdL_lst (u.at' _ _ t1''.nin t1''.top)))
  simp (decide := true) only [ev, ex9, exA, exB, exD, decide_true, decide_false, Bool.not_true, Bool.not_false, not_true, not_false_iff, eq_self, List.length_map, if_true, if_false, Bool.false_eq_true, t1''.rd, items_tb, e4]
  exact ⟨S4, rfl, (u02.any.trans (u3.mono fun x hx => List.mem_append_left _ hx)).trans (u4.mono fun x hx => List.mem_append_right _ hx)⟩
noncomputable def rest44 : St → Sto → R Fl := (sSq (sFor (iT (eSl (eV 8) (some (eC (.int 1))) none)) (gI1 10) [10] b_law_1)
    (sSq (sSet 11 (eCl 3 r_fate_of (aCons (eO ixM (eV 2) (eC (.int 0))) (aCons (eO ixM (eV 2) (eC (.int 1))) (aCons (eV 6) aNil)))))
    (sIf (tO (tV (eO neM (eO ixM (eV 11) (eC (.int 0))) (eV 9))) (tN (tV (eCl 3 r__law_right (aCons (eV 11) (aCons (eV 2) (aCons (eV 6) aNil)))))))
    (sRet (eC (.bl false)))
    sNx)))
theorem body44_eq : b_law_2 = (sSq (sSet 6 (eTup (aCons (eO modM (eO ixM (eV 1) (eO addM (eC (.int 4)) (eV 5))) (eA lenM (aCons (eO ixM (eV 2) (eC (.int 0))) aNil))) (aCons (eO modM (eO fdivM (eO ixM (eV 1) (eO addM (eC (.int 4)) (eV 5))) (eC (.int 8))) (eA lenM (aCons (eO ixM (eV 2) (eC (.int 1))) aNil))) aNil))))
    (sSq (sSet 7 (eLst (aCons (eA listM (aCons (eO ixM (eV 2) (eC (.int 0))) aNil)) (aCons (eA listM (aCons (eO ixM (eV 2) (eC (.int 1))) aNil)) aNil))))
    (sSq (sSet 8 (eCl 3 r_fate_of (aCons (eO ixM (eV 7) (eC (.int 0))) (aCons (eO ixM (eV 7) (eC (.int 1))) (aCons (eV 6) aNil)))))
    (sSq (sIf (tO (tN (tV (eCl 3 r__law_right (aCons (eV 8) (aCons (eV 2) (aCons (eV 6) aNil)))))) (tO (tV (eO neM (eV 7) (eV 2))) (tN (tV (eCl 3 r__law_refused (aCons (eV 3) (aCons (eV 6) (aCons (eC (.int 2)) aNil))))))))
    (sRet (eC (.bl false)))
    sNx)
    (sSq (sSet 9 (eO ixM (eV 8) (eC (.int 0))))
    (sSq (sIf (tAn (tV (eO eqM (eV 9) (eC (.str (PySem.Str.ofString "free"))))) (tN (tV (eCl 2 r__law_apart (aCons (eO ixM (eV 8) (eC (.int 1))) (aCons (eO ixM (eV 8) (eC (.int 2))) aNil))))))
    (sRet (eC (.bl false)))
    sNx)
    rest44)))))) := rfl
theorem word_ne {x : String} {Rf Cf : Nat → Int} {h w i j : Nat} (hx : WordOf x Rf Cf h w i j) (S : Sto) : neM (.str (PySem.Str.ofString x)) (.str (PySem.Str.ofString x)) S = .ok (.bl false) S := by
  rcases hx with ⟨rfl, _⟩ | ⟨rfl, _⟩ | ⟨rfl, _⟩
  · exact neW_free S
  · exact neW_zero S
  · exact neW_one S
theorem tail44 {S : Sto} {n0 sm r c ce tp p1 p2 i j : Nat} {rows cols : List Int} {x : String} {T : List (List Int)} {y1 y2 : List V} {v0 v1 v3 v4 v5 v7 : V} (k : Sm3 S sm r c rows cols) (hce : S[ce]? = some (.tup [.int (i : Int), .int (j : Int)])) (hi : i < rows.length) (hj : j < cols.length) (h8 : rows.length ≤ 8) (w8 : cols.length ≤ 8)
    (kt : S[tp]? = some (.tup [.str (PySem.Str.ofString x), .ref p1, .ref p2])) (l1 : S[p1]? = some (.lst y1)) (l2 : S[p2]? = some (.lst y2)) (b1 : n0 ≤ p1) (b2 : n0 ≤ p2) (a1 : sm < n0) (a2 : r < n0) (a3 : c < n0) (a4 : ce < n0) (hx : WordOf x (fun i => rows.getD i 0) (fun j => cols.getD j 0) rows.length cols.length i j) (o : OnesOf T (fun i => rows.getD i 0) (fun j => cols.getD j 0) rows.length cols.length) :
    ∃ (S' : Sto) (tq : Nat), rest44 [some v0, some v1, some (.ref sm), some v3, some v4, some v5, some (.ref ce), some v7, some (.ref tp), some (.str (PySem.Str.ofString x)), none, none] S = .ok (.nx [some v0, some v1, some (.ref sm), some v3, some v4, some v5, some (.ref ce), some v7, some (.ref tp), some (.str (PySem.Str.ofString x)), none, some (.ref tq)]) S' ∧ Up [p1, p2] S S' := by
  have hc1 := cutM_tup1 kt
  have w1 := Up.app [] S [.tup [.ref p1, .ref p2]]
  have g1 := snew S (.tup [.ref p1, .ref p2])
  have hlt1 := slt l1
  have hlt2 := slt l2
  have hni : ∀ y : Nat, y < n0 → y ∉ [p1, p2] := fun y hy hm => by
    simp only [List.mem_cons, List.not_mem_nil, or_false] at hm
    omega
  obtain ⟨S1, e1, u1⟩ := forM_clear2 (chk := chkT (.ref S.length) [V.ref p1, V.ref p2]) (k := 10) (body := b_law_1) (σ := [some v0, some v1, some (.ref sm), some v3, some v4, some v5, some (.ref ce), some v7, some (.ref tp), some (.str (PySem.Str.ofString x)), none, none]) (N := [p1, p2]) rfl (by simp only [List.length_cons, List.length_nil]; decide) rfl (S := S ++ [.tup [.ref p1, .ref p2]]) (fun n hn => by
      simp only [List.mem_cons, List.not_mem_nil, or_false] at hn
      rcases hn with rfl | rfl
      · exact ⟨_, w1.get l1⟩
      · exact ⟨_, w1.get l2⟩) (fun S' hS => chkT_of (rdT_tup (hS.at' _ _ (fun hm => by
      simp only [List.mem_cons, List.not_mem_nil, or_false] at hm
      omega) g1)))
  have e1' : forM (chkT (.ref S.length) [V.ref p1, V.ref p2]) (gI1 10) [10] b_law_1 [.one (.ref p1), .one (.ref p2)] [some v0, some v1, some (.ref sm), some v3, some v4, some v5, some (.ref ce), some v7, some (.ref tp), some (.str (PySem.Str.ofString x)), none, none] (S ++ [.tup [.ref p1, .ref p2]]) = .ok (.nx [some v0, some v1, some (.ref sm), some v3, some v4, some v5, some (.ref ce), some v7, some (.ref tp), some (.str (PySem.Str.ofString x)), none, none]) S1 := e1
  have u01 : Up [p1, p2] S S1 := w1.any.trans u1
  have k1 : Sm3 S1 sm r c rows cols := ⟨u01.at' _ _ (hni _ a1) k.top, u01.at' _ _ (hni _ a2) k.kr, u01.at' _ _ (hni _ a3) k.kc⟩
  have hce1 := u01.at' _ _ (hni _ a4) hce
  obtain ⟨z0, z1⟩ := k1.ix
  rcases fate_spec k1.kr k1.kc rfl rfl hce1 hi hj (by omega) (by omega) with ⟨S2, e2, u2, hno⟩ | ⟨S2, tq, e2, u2, lt, f⟩
  · exact absurd o (hno _)
  · obtain ⟨x', y, z, kq, hx', _⟩ := f.wordOf hi hj
    have hxx : x' = x := hx'.uniq hx
    subst hxx
    have q0 : ixQ (.ref tq) (.int 0) S2 = .ok (.str (PySem.Str.ofString x')) S2 := ixQ_at (k := 0) (rdLT_tup kq) rfl
    have hne := word_ne hx' S2
    obtain ⟨S3, e3, u3⟩ := right44 (k1.up u2) (u2.get hce1) hi hj h8 w8 f
    simp (decide := true) only [ev, ex9, exA, exB, exD, decide_true, decide_false, Bool.not_true, Bool.not_false, not_true, not_false_iff, eq_self, List.length_map, if_true, if_false, Bool.false_eq_true, rest44, hc1, iT_eq, kIT_ok (rdT_tup g1), List.map_cons, List.map_nil, e1', z0, z1, e2, q0, hne, e3]
    exact ⟨S3, tq, rfl, u01.trans (u2.trans u3).any⟩
theorem turn44 {S : Sto} {d sm r c s2 r2 c2 co a : Nat} {rows cols rows2 cols2 ds : List Int} {T : List (List Int)} (hd : S[d]? = some (.lst (ds.map V.int))) (hdl : ds.length = 16) (ha : a < 3) (k : Sm3 S sm r c rows cols) (k2 : Sm3 S s2 r2 c2 rows2 cols2) (h1 : 1 ≤ rows.length) (w1 : 1 ≤ cols.length) (h8 : rows.length ≤ 8) (w8 : cols.length ≤ 8)
    (rl2 : rows2.length = rows.length) (cl2 : cols2.length = cols.length) (hno2 : ∀ X, ¬ OnesOf X (fun i => rows2.getD i 0) (fun j => cols2.getD j 0) rows.length cols.length) (o : OnesOf T (fun i => rows.getD i 0) (fun j => cols.getD j 0) rows.length cols.length) :
    ∃ (S' : Sto) (σ' : St), b_law_2 [some (.ref 0), some (.ref d), some (.ref sm), some (.ref s2), some (.ref co), some (.int (a : Int)), none, none, none, none, none, none] S = .ok (.nx σ') S' ∧ wipe σ' [5, 6, 7, 8, 9, 10, 11] = [some (.ref 0), some (.ref d), some (.ref sm), some (.ref s2), some (.ref co), none, none, none, none, none, none, none] ∧ Up [] S S' := by
  obtain ⟨x0, x1⟩ := k.ix
  have y0 := rix (i := 4 + (a : Int)) hd (by omega) (by omega)
  have lr : lenM [.ref r] S = .ok (.int (rows.length : Int)) S := by rw [lenM_at (rdLT_lst k.kr), List.length_map]
  have lc : lenM [.ref c] S = .ok (.int (cols.length : Int)) S := by rw [lenM_at (rdLT_lst k.kc), List.length_map]
  generalize ds.getD (4 + (a : Int)).toNat 0 = dv at y0
  obtain ⟨i, hi⟩ := Int.eq_ofNat_of_zero_le (Int.emod_nonneg dv (show (rows.length : Int) ≠ 0 by omega))
  have i1 := Int.emod_lt_of_pos dv (show (0 : Int) < (rows.length : Int) by omega)
  obtain ⟨j, hj⟩ := Int.eq_ofNat_of_zero_le (Int.emod_nonneg (dv / 8) (show (cols.length : Int) ≠ 0 by omega))
  have j1 := Int.emod_lt_of_pos (dv / 8) (show (0 : Int) < (cols.length : Int) by omega)
  rw [hi] at i1
  rw [hj] at j1
  have hil : i < rows.length := by omega
  have hjl : j < cols.length := by omega
  have v1 := Up.app [] S [.tup [.int (i : Int), .int (j : Int)]]
  have kce := snew S (.tup [.int (i : Int), .int (j : Int)])
  rw [body44_eq]
  simp (decide := true) only [ev, ex9, exA, exB, exD, decide_true, decide_false, Bool.not_true, Bool.not_false, not_true, not_false_iff, eq_self, List.length_map, if_true, if_false, Bool.false_eq_true, y0, x0, x1, lr, lc, modM_pos (i := dv) (j := (rows.length : Int)) (by omega), hi, modM_pos (i := dv / 8) (j := (cols.length : Int)) (by omega), hj]
  have k1 := k.up v1
  have kk2 := k2.up v1
  have hSl : S.length < (S ++ [Ob.tup [V.int (i : Int), V.int (j : Int)]]).length := by simp
  have smlt := slt k.top
  have rlt := slt k.kr
  have clt := slt k.kc
  generalize S ++ [Ob.tup [V.int (i : Int), V.int (j : Int)]] = S1 at v1 kce k1 kk2 hSl ⊢
  generalize hce : S.length = ce at kce hSl smlt rlt clt ⊢
  obtain ⟨z0, z1⟩ := k1.ix
  obtain ⟨a1, a2, a3, _, a5, k6⟩ := k1.copies
  obtain ⟨q0, q1⟩ := k6.ix
  have l15 := a5.len
  simp (decide := true) only [ev, ex9, exA, exB, exD, decide_true, decide_false, Bool.not_true, Bool.not_false, not_true, not_false_iff, eq_self, List.length_map, if_true, if_false, Bool.false_eq_true, z0, a1, a2, a3, q0, q1]
  generalize S1 ++ [Ob.lst (rows.map V.int)] ++ [Ob.lst (cols.map V.int)] ++ [Ob.lst [V.ref S1.length, V.ref (S1 ++ [Ob.lst (rows.map V.int)]).length]] = S4 at a5 k6 q0 q1 l15 ⊢
  generalize (S1 ++ [Ob.lst (rows.map V.int)] ++ [Ob.lst (cols.map V.int)]).length = hd' at k6 q0 q1 ⊢
  rcases fate_spec k6.kr k6.kc rfl rfl (a5.get kce) hil hjl (by omega) (by omega) with ⟨S5, e5, u5, hno⟩ | ⟨S5, tp, e5, u5, lt, f⟩
  · exact absurd o (hno _)
  · obtain ⟨x, y, z, kt, hx, _⟩ := f.wordOf hil hjl
    have u15 := a5.trans u5
    obtain ⟨S6, e6, u6⟩ := right44 (k1.up u15) (u15.get kce) hil hjl h8 w8 f
    have u16 := u15.trans u6
    have hne := neM_same ((k6.up (u5.trans u6)).dat) ((k1.up u16).dat) (sh_sm rows cols)
    obtain ⟨S7, e7, u7⟩ := refused44 (cl := "NoSums") (n := 2) (ce := ce) (kk2.up u16) (.inr ⟨rfl, rfl⟩) (fun S' b1 b2 u hb1 hb2 => by
      rcases fate_spec hb1 hb2 rl2 cl2 (u.get (u16.get kce)) hil hjl (by omega) (by omega) with ⟨S'', e, u', _⟩ | ⟨S'', tq, e, u', _, f'⟩
      · exact ⟨S'', e, u'⟩
      · exfalso
        obtain ⟨x', _, _, _, hx', _⟩ := f'.wordOf hil hjl
        rcases hx' with ⟨_, ⟨X, o', _⟩, _⟩ | ⟨_, ⟨X, o'⟩, _⟩ | ⟨_, ⟨X, o'⟩, _⟩
        · exact hno2 X o'
        · exact hno2 X o'
        · exact hno2 X o')
    have u57 := u6.trans u7
    have u17 := u15.trans u57
    have kt7 := u57.get kt
    have w0 : ixQ (.ref tp) (.int 0) S7 = .ok (.str (PySem.Str.ofString x)) S7 := ixQ_at (k := 0) (rdLT_tup kt7) rfl
    have k7 := k1.up u17
    have hce7 := u17.get kce
    have fin : ∀ {S8 S' : Sto} {M : List Nat}, Up M S7 S8 → (∀ m ∈ M, S4.length ≤ m) → Up M S8 S' → Up [] S S' := fun u8 hM u9 => (v1.trans u17).new' (u8.trans u9) (fun m hm => by have := hM m hm; have := v1.len; omega)
    cases f with
    | free p1 p2 Q0 Q1 m kk B0 B1 hn hq hQ =>
      have e := kk.symm.trans kt
      injection e with e
      injection e with e
      injection e with ew e
      have hxf : PySem.Str.ofString x = PySem.Str.ofString "free" := by injection ew with ew; exact ew.symm
      have hxz : x = "free" := by
        rcases hx with ⟨h, _⟩ | ⟨h, _⟩ | ⟨h, _⟩
        · exact h
        · rw [h] at hxf; exact absurd hxf (by decide +kernel)
        · rw [h] at hxf; exact absurd hxf (by decide +kernel)
      subst hxz
      have kk7 := u57.get kk
      have w1' : ixQ (.ref tp) (.int 1) S7 = .ok (.ref p1) S7 := ixQ_at (k := 1) (rdLT_tup kk7) rfl
      have w2' : ixQ (.ref tp) (.int 2) S7 = .ok (.ref p2) S7 := ixQ_at (k := 2) (rdLT_tup kk7) rfl
      have t0 := B0.tb.up u57
      have t1 := B1.tb.up u57
      obtain ⟨S8, e8, u8⟩ := apart44 (m := m) t0 t1 B0.new hQ hq
      have hM : ∀ y ∈ Q0.map Prod.fst ++ Q1.map Prod.fst, S4.length ≤ y := fun y hy => by
        rcases List.mem_append.mp hy with hy | hy
        · obtain ⟨p, hp, rfl⟩ := List.mem_map.mp hy
          have := B0.new p hp; omega
        · obtain ⟨p, hp, rfl⟩ := List.mem_map.mp hy
          exact B1.new p hp
      have old : ∀ {y : Nat} {ob : Ob}, y < S4.length → S7[y]? = some ob → S8[y]? = some ob := fun {y ob} hy h => u8.at' _ _ (fun hm => by have := hM _ hm; omega) h
      have nin0 : p1 ∉ Q0.map Prod.fst ++ Q1.map Prod.fst := fun hm => by
        rcases List.mem_append.mp hm with hm | hm
        · exact t0.nin hm
        · obtain ⟨p, hp, e⟩ := List.mem_map.mp hm
          have := hQ p hp
          have := B0.newc
          omega
      have nin1 : p2 ∉ Q0.map Prod.fst ++ Q1.map Prod.fst := fun hm => by
        rcases List.mem_append.mp hm with hm | hm
        · obtain ⟨p, hp, e⟩ := List.mem_map.mp hm
          have := B0.new p hp
          omega
        · exact t1.nin hm
      have ntp : tp ∉ Q0.map Prod.fst ++ Q1.map Prod.fst := fun hm => by
        rcases List.mem_append.mp hm with hm | hm
        · obtain ⟨p, hp, e⟩ := List.mem_map.mp hm
          have := B0.tb.row p hp
          rw [e, kk] at this
          cases this
        · obtain ⟨p, hp, e⟩ := List.mem_map.mp hm
          have := B1.tb.row p hp
          rw [e, kk] at this
          cases this
      obtain ⟨S9, tq, e9, u9⟩ := tail44 (n0 := S4.length) (v0 := .ref 0) (v1 := .ref d) (v3 := .ref s2) (v4 := .ref co) (v5 := .int (a : Int)) (v7 := .ref hd') (x := "free") ⟨old (by omega) k7.top, old (by omega) k7.kr, old (by omega) k7.kc⟩ (old (by omega) hce7) hil hjl h8 w8 (u8.at' _ _ ntp kk7) (u8.at' _ _ nin0 t0.top) (u8.at' _ _ nin1 t1.top) (by have := B0.newc; omega) B1.newc (by omega) (by omega) (by omega) (by omega) hx o
      simp (decide := true) only [ev, ex9, exA, exB, exD, decide_true, decide_false, Bool.not_true, Bool.not_false, not_true, not_false_iff, eq_self, List.length_map, if_true, if_false, Bool.false_eq_true, e5, e6, hne, e7, w0, eqW_free, w1', w2', e8, e9]
      refine ⟨S9, _, rfl, rfl, fin (M := (Q0.map Prod.fst ++ Q1.map Prod.fst) ++ [p1, p2]) (u8.mono fun x hx => List.mem_append_left _ hx) (fun y hy => ?_) (u9.mono fun x hx => List.mem_append_right _ hx)⟩
      rcases List.mem_append.mp hy with hy | hy
      · exact hM y hy
      · simp only [List.mem_cons, List.not_mem_nil, or_false] at hy
        have := B0.newc
        have := B1.newc
        omega
    | zero na nb A B kw C X o' =>
      have e := kw.1.symm.trans kt
      injection e with e
      injection e with e
      injection e with ew e
      have hxf : PySem.Str.ofString x = PySem.Str.ofString "zero" := by injection ew with ew; exact ew.symm
      have hxz : x = "zero" := by
        rcases hx with ⟨h, _⟩ | ⟨h, _⟩ | ⟨h, _⟩
        · rw [h] at hxf; exact absurd hxf (by decide +kernel)
        · exact h
        · rw [h] at hxf; exact absurd hxf (by decide +kernel)
      subst hxz
      have kw0 := kw.2.2.2.1
      have kw1 := kw.2.2.2.2
      obtain ⟨S9, tq, e9, u9⟩ := tail44 (n0 := S4.length) (v0 := .ref 0) (v1 := .ref d) (v3 := .ref s2) (v4 := .ref co) (v5 := .int (a : Int)) (v7 := .ref hd') (x := "zero") k7 hce7 hil hjl h8 w8 (u57.get kw.1) (u57.get kw.2.1) (u57.get kw.2.2.1) kw0 (by omega) (by omega) (by omega) (by omega) (by omega) hx o
      simp (decide := true) only [ev, ex9, exA, exB, exD, decide_true, decide_false, Bool.not_true, Bool.not_false, not_true, not_false_iff, eq_self, List.length_map, if_true, if_false, Bool.false_eq_true, e5, e6, hne, e7, w0, eqW_zero_free, e9]
      refine ⟨S9, _, rfl, rfl, fin (M := [na, nb]) (Up.refl _ _) (fun y hy => ?_) u9⟩
      simp only [List.mem_cons, List.not_mem_nil, or_false] at hy
      omega
    | one na nb A B kw C X o' =>
      have e := kw.1.symm.trans kt
      injection e with e
      injection e with e
      injection e with ew e
      have hxf : PySem.Str.ofString x = PySem.Str.ofString "one" := by injection ew with ew; exact ew.symm
      have hxz : x = "one" := by
        rcases hx with ⟨h, _⟩ | ⟨h, _⟩ | ⟨h, _⟩
        · rw [h] at hxf; exact absurd hxf (by decide +kernel)
        · rw [h] at hxf; exact absurd hxf (by decide +kernel)
        · exact h
      subst hxz
      have kw0 := kw.2.2.2.1
      have kw1 := kw.2.2.2.2
      obtain ⟨S9, tq, e9, u9⟩ := tail44 (n0 := S4.length) (v0 := .ref 0) (v1 := .ref d) (v3 := .ref s2) (v4 := .ref co) (v5 := .int (a : Int)) (v7 := .ref hd') (x := "one") k7 hce7 hil hjl h8 w8 (u57.get kw.1) (u57.get kw.2.1) (u57.get kw.2.2.1) kw0 (by omega) (by omega) (by omega) (by omega) (by omega) hx o
      simp (decide := true) only [ev, ex9, exA, exB, exD, decide_true, decide_false, Bool.not_true, Bool.not_false, not_true, not_false_iff, eq_self, List.length_map, if_true, if_false, Bool.false_eq_true, e5, e6, hne, e7, w0, eqW_one_free, e9]
      refine ⟨S9, _, rfl, rfl, fin (M := [na, nb]) (Up.refl _ _) (fun y hy => ?_) u9⟩
      simp only [List.mem_cons, List.not_mem_nil, or_false] at hy
      omega
theorem law_true (ns : List Int) (hl : ns.length ≤ 63) : ∃ S', r_law [.ref 0] [.frl (ns.map V.int)] = .ok (.bl true) S' := by
  have hs : rdL (.ref 0) [Ob.frl (ns.map V.int)] = some (ns.map V.int) := rfl
  generalize [Ob.frl (ns.map V.int)] = S at hs
  obtain ⟨ds, S1, d, hdl, _, e1, u1, _, kd⟩ := deck_spec hs hl (m := 16) (by omega)
  have e1 : r__law_deck [.ref 0, .int 16] S = .ok (.ref d) S1 := e1
  obtain ⟨P, S2, b, h, w, e2, u2, tP, _, _, hPl, hR, hO, h1, h8, w1, w8⟩ := ones_spec (rdL_up u1 hs) hl kd (by omega)
  obtain ⟨S3, sm, r, c, e3, u3, _, tS, _⟩ := law_sums_spec tP hR hPl h1 (by omega)
  have o := onesOf_self (P := rowsOf P) (by rw [rows_len, hPl]) hR hO h1
  have hrl : ((rowsOf P).map List.sum).length = h := by rw [List.length_map, rows_len, hPl]
  have hwd : wide (rowsOf P) = w := wide_of hR (fun z => by have : (rowsOf P).length = h := by rw [rows_len, hPl]
                                                            rw [z] at this; simp at this; omega)
  have hcl : ((turn (rowsOf P)).map List.sum).length = w := by rw [List.length_map, turn, List.length_map, List.length_range, hwd]
  have k : Sm3 S3 sm r c ((rowsOf P).map List.sum) ((turn (rowsOf P)).map List.sum) := ⟨tS.top, tS.row (r, (rowsOf P).map List.sum) (by simp), tS.row (c, (turn (rowsOf P)).map List.sum) (by simp)⟩
  generalize (rowsOf P).map List.sum = rows at k o hrl
  generalize (turn (rowsOf P)).map List.sum = cols at k o hcl
  subst hrl hcl
  have kd3 := (u2.trans u3).get kd
  have y2 := rix (i := 2) kd3 (by omega) (by omega)
  obtain ⟨S4, s2, r2, c2, rows2, cols2, e4, u4, k2, rl2, cl2, hno2⟩ := spoiled44 (n := ds.getD (2 : Int).toNat 0) k h1 w1 (o.sums rfl rfl)
  have y3 := rix (i := 3) (u4.get kd3) (by omega) (by omega)
  obtain ⟨S5, co, x, y, e5, u5, kco, hbad⟩ := odd44 (n := ds.getD (3 : Int).toNat 0) (k.up u4) h1 h8 w1 w8
  have k5 := (k.up u4).up u5
  have k25 := k2.up u5
  obtain ⟨S6, e6, u6⟩ := refused44 (cl := "NoPlace") (n := 1) (ce := co) k5 (.inl ⟨rfl, rfl⟩) (fun S' a b u ha hb => ⟨S', place_no ha hb (u.get kco) hbad, Up.refl _ _⟩)
  obtain ⟨S7, e7, u7⟩ := refused44 (cl := "NoPlace") (n := 1) (ce := co) (k25.up u6) (.inl ⟨rfl, rfl⟩) (fun S' a b u ha hb => ⟨S', place_no ha hb (u.get (u6.get kco)) (by rw [rl2, cl2]; exact hbad), Up.refl _ _⟩)
  have u57 := u6.trans u7
  have k7 := k5.up u57
  have k27 := k25.up u57
  have kd7 := u57.get (u5.get (u4.get kd3))
  simp (decide := true) only [ev, ex9, exA, exB, exD, decide_true, decide_false, Bool.not_true, Bool.not_false, not_true, not_false_iff, eq_self, List.length_map, if_true, if_false, Bool.false_eq_true, r_law_eq, c_law, e1, e2, e3, y2, e4, y3, e5, e6, e7]
  rw [show (3 : Int) = ((3 : Nat) : Int) from rfl, rng1_ok (by omega), items_rng, Int.toNat_natCast]
  simp (decide := true) only [ev, ex9, exA, exB, exD, decide_true, decide_false, Bool.not_true, Bool.not_false, not_true, not_false_iff, eq_self, List.length_map, if_true, if_false, Bool.false_eq_true]
  obtain ⟨S8, e8, u8⟩ := forM_at (chk := chkY) (tg := gI1 5) (ws := [5, 6, 7, 8, 9, 10, 11]) (body := b_law_2) (xs := List.range 3) (oneR 0)
    (fun _ => [some (.ref 0), some (.ref d), some (.ref sm), some (.ref s2), some (.ref co), none, none, none, none, none, none, none]) (fun _ S' => Up [] S7 S') (fun _ _ _ => rfl)
    (fun a x S' hx u => by
      obtain ⟨ha, rfl⟩ := rng_at hx
      obtain ⟨S'', σ', e, hw, u'⟩ := turn44 (co := co) (u.get kd7) hdl ha (k7.up u) (k27.up u) h1 w1 h8 w8 rl2 cl2 hno2 o
      refine ⟨_, gI1_one _ _ _ _, ?_⟩
      rw [Int.zero_add]
      simp (decide := true) only [ev, ex9, exA, exB, exD, decide_true, decide_false, Bool.not_true, Bool.not_false, not_true, not_false_iff, eq_self, List.length_map, if_true, if_false, Bool.false_eq_true, e, Tn_nx]
      exact ⟨hw, u.trans u'⟩) (S := S7) (Up.refl _ _)
  rw [e8]
  simp (decide := true) only [ev, ex9, exA, exB, exD, decide_true, decide_false, Bool.not_true, Bool.not_false, not_true, not_false_iff, eq_self, List.length_map, if_true, if_false, Bool.false_eq_true]
  exact ⟨S8, rfl⟩

end Lw
namespace Lw
open PySem PySem.Spec L2 Fx
open PyProof.Rows hiding St

def topS (i : Nat) : Stmt := PySem.Challenge.pw_evenmix_k44_fates.main.body.getD i (.Pass ⟨0, 0, 0, 0⟩)
structure Tf (K : PySem.W.Frag) (mg : Str → Option Value) : Prop where
  o_NoBounds : OwnC K mg "NoBounds"
  o_NoPlace : OwnC K mg "NoPlace"
  o_NoSums : OwnC K mg "NoSums"
  h_NoPlace : HdX K mg ["NoBounds", "NoPlace", "NoSums"] "NoPlace"
  h_NoSums : HdX K mg ["NoBounds", "NoPlace", "NoSums"] "NoSums"
  h_MixError : HdX K mg ["NoBounds", "NoPlace", "NoSums"] "MixError"
  i_NoSums : IsC K mg ["NoBounds", "NoPlace", "NoSums"] "NoSums"
  i_NoPlace : IsC K mg ["NoBounds", "NoPlace", "NoSums"] "NoPlace"
  i_NoTable : IsC K mg ["NoBounds", "NoPlace", "NoSums"] "NoTable"
  i_NoBottom : IsC K mg ["NoBounds", "NoPlace", "NoSums"] "NoBottom"
  i_NotAlike : IsC K mg ["NoBounds", "NoPlace", "NoSums"] "NotAlike"
  i_NoStep : IsC K mg ["NoBounds", "NoPlace", "NoSums"] "NoStep"
  i_NoMix : IsC K mg ["NoBounds", "NoPlace", "NoSums"] "NoMix"
  i_NotEven : IsC K mg ["NoBounds", "NoPlace", "NoSums"] "NotEven"
  i_NoSwap : IsC K mg ["NoBounds", "NoPlace", "NoSums"] "NoSwap"
  i_NoBounds : IsC K mg ["NoBounds", "NoPlace", "NoSums"] "NoBounds"
  i_TooGreat : IsC K mg ["NoBounds", "NoPlace", "NoSums"] "TooGreat"
  i_NoNumber : IsC K mg ["NoBounds", "NoPlace", "NoSums"] "NoNumber"
  i_NoText : IsC K mg ["NoBounds", "NoPlace", "NoSums"] "NoText"
  e_R : ExCs K mg ["NoBounds", "NoPlace", "NoSums"]
  v_R : KvV K mg ["NoBounds", "NoPlace", "NoSums"]
  b_ValueError : mg "ValueError" = none
  b_bool : mg "bool" = none
  b_enumerate : mg "enumerate" = none
  b_int : mg "int" = none
  b_isinstance : mg "isinstance" = none
  b_len : mg "len" = none
  b_list : mg "list" = none
  b_min : mg "min" = none
  b_range : mg "range" = none
  b_reversed : mg "reversed" = none
  b_sorted : mg "sorted" = none
  b_sum : mg "sum" = none
  b_tuple : mg "tuple" = none
  b_zip : mg "zip" = none
abbrev s_sums_of_rows : Stmt := topS 16
theorem sc_sums_of_rows : FnScope ["table", "line"] ["table"] (defScope s_sums_of_rows) := ⟨rfl, rfl, rfl, by decide +kernel, rfl, by decide +kernel, by decide +kernel⟩
theorem ok_sums_of_rows {P : Program} {w : World} {K : PySem.W.Frag} {mg : Str → Option Value} {base : Heap} {f : Addr} {fd : FuncData} (T : Tf K mg) (F : Fun K "sums_of_rows" "sums_of_rows" s_sums_of_rows f fd) (gF : mg "sums_of_rows" = some (.ref f)) (B : Binds K fd ["table"] [])  :
    Df P w K mg base "sums_of_rows" 1 1 r_sums_of_rows :=
  ⟨f, fd, _, fn_ok (k := 0) F sc_sums_of_rows 1 rfl 2 rfl (fun cdv A outer s H E hr tk hp =>
    have nd := (sc_sums_of_rows).nd
    (fss_one (fs_ret (fe_lc (own := [("line", 1)]) (is := [1]) rfl nd (fi_list (fe_v 0)) (blkOk_by (by kernel_rfl)) (fun _ _ _ _ _ => (fgi_name (i := 1) nd rfl (Or.inl rfl))) (fun _ _ _ _ _ => fts_nil) (fun _ _ _ _ _ => (fe_callB (cr_sum rfl) sumM_ok rfl T.b_sum (by decide +kernel) (fa_cons (fe_v 1) fa_nil))))))), gF, F.kp, B⟩
abbrev s_turned_table : Stmt := topS 17
theorem sc_turned_table : FnScope ["table", "found", "k", "line"] ["table"] (defScope s_turned_table) := ⟨rfl, rfl, rfl, by decide +kernel, rfl, by decide +kernel, by decide +kernel⟩
theorem ok_turned_table {P : Program} {w : World} {K : PySem.W.Frag} {mg : Str → Option Value} {base : Heap} {f : Addr} {fd : FuncData} (T : Tf K mg) (F : Fun K "turned_table" "turned_table" s_turned_table f fd) (gF : mg "turned_table" = some (.ref f)) (B : Binds K fd ["table"] [])  :
    Df P w K mg base "turned_table" 1 1 r_turned_table :=
  ⟨f, fd, _, fn_ok (k := 0) F sc_turned_table 1 rfl 4 rfl (fun cdv A outer s H E hr tk hp =>
    have nd := (sc_turned_table).nd
    (fss_cons (fs_set (i := 1) nd rfl (Or.inl rfl) (fe_lst fa_nil))
    (fss_cons (fs_for hp rfl [2] (fi_range1 rfl T.b_range (fa_cons (fe_callB call_len lenM_ok rfl T.b_len (by decide +kernel) (fa_cons (fe_ix ix_seq ixM_ok (fe_v 0) (fe_c pe_int)) fa_nil)) fa_nil)) (fgi_name (i := 2) nd rfl (Or.inr rfl))
    (fss_one (fs_expr (fe_bm PySem.F.plainAttrs_list PySem.F.slot_list_append PySem.F.type_list_append mt_append isLs_ok appM_ok (fe_v 1) (fa_cons (fe_lc (own := [("line", 3)]) (is := [3]) rfl nd (fi_list (fe_v 0)) (blkOk_by (by kernel_rfl)) (fun _ _ _ _ _ => (fgi_name (i := 3) nd rfl (Or.inl rfl))) (fun _ _ _ _ _ => fts_nil) (fun _ _ _ _ _ => (fe_ix ix_seq ixM_ok (fe_v 3) (fe_v 2)))) fa_nil)))))
    (fss_one (fs_ret (fe_v 1)))))), gF, F.kp, B⟩
abbrev s_sums_of_columns : Stmt := topS 18
theorem sc_sums_of_columns : FnScope ["table"] ["table"] (defScope s_sums_of_columns) := ⟨rfl, rfl, rfl, by decide +kernel, rfl, by decide +kernel, by decide +kernel⟩
theorem ok_sums_of_columns {P : Program} {w : World} {K : PySem.W.Frag} {mg : Str → Option Value} {base : Heap} {f : Addr} {fd : FuncData} (T : Tf K mg) (F : Fun K "sums_of_columns" "sums_of_columns" s_sums_of_columns f fd) (gF : mg "sums_of_columns" = some (.ref f)) (B : Binds K fd ["table"] []) (D_sums_of_rows : Df P w K mg base "sums_of_rows" 1 1 r_sums_of_rows) (D_turned_table : Df P w K mg base "turned_table" 1 1 r_turned_table) :
    Df P w K mg base "sums_of_columns" 2 1 r_sums_of_columns :=
  ⟨f, fd, _, fn_ok (k := 1) F sc_sums_of_columns 1 rfl 1 rfl (fun cdv A outer s H E hr tk hp =>
    have nd := (sc_sums_of_columns).nd
    (fss_one (fs_ret (fe_call' D_sums_of_rows hr (by decide) rfl tk (fa_cons (fe_call' D_turned_table hr (by decide) rfl tk (fa_cons (fe_v 0) fa_nil)) fa_nil))))), gF, F.kp, B⟩
abbrev s_nodes_next : Stmt := topS 20
theorem sc_nodes_next : FnScope ["node", "cells", "low", "high", "side", "k", "j", "i"] ["node", "cells", "low", "high"] (defScope s_nodes_next) := ⟨rfl, rfl, rfl, by decide +kernel, rfl, by decide +kernel, by decide +kernel⟩
theorem ok_nodes_next {P : Program} {w : World} {K : PySem.W.Frag} {mg : Str → Option Value} {base : Heap} {f : Addr} {fd : FuncData} (T : Tf K mg) (F : Fun K "nodes_next" "nodes_next" s_nodes_next f fd) (gF : mg "nodes_next" = some (.ref f)) (B : Binds K fd ["node", "cells", "low", "high"] [])  :
    Df P w K mg base "nodes_next" 1 4 r_nodes_next :=
  ⟨f, fd, _, fn_ok (k := 0) F sc_nodes_next 4 rfl 8 rfl (fun cdv A outer s H E hr tk hp =>
    have nd := (sc_nodes_next).nd
    (fss_cons (fs_asg (fe_v 0) (fg_sq rfl (fgs_cons (i := 4) nd rfl (Or.inl rfl) (fgs_cons (i := 5) nd rfl (Or.inr rfl) fgs_nil))))
    (fss_cons (fs_if (ft_cmp (op_eqD hr.units) eqM_ok (fe_v 4) (fe_c pe_int))
    (fss_one (fs_ret (fe_lc (own := [("j", 6)]) (is := [6]) rfl nd (fi_range1 rfl T.b_range (fa_cons (fe_callB call_len lenM_ok rfl T.b_len (by decide +kernel) (fa_cons (fe_ix ix_seq ixM_ok (fe_v 1) (fe_v 5)) fa_nil)) fa_nil)) (blkOk_by (by kernel_rfl)) (fun _ _ _ _ _ => (fgi_name (i := 6) nd rfl (Or.inl rfl))) (fun _ _ _ _ _ => (fts_one (ft_cmp op_lt ltM_ok (fe_ix ix_seq ixM_ok (fe_ix ix_seq ixM_ok (fe_v 1) (fe_v 5)) (fe_v 6)) (fe_ix ix_seq ixM_ok (fe_ix ix_seq ixM_ok (fe_v 3) (fe_v 5)) (fe_v 6))))) (fun _ _ _ _ _ => (fe_tup (fa_cons (fe_c pe_int) (fa_cons (fe_v 6) fa_nil)))))))
    fss_nil)
    (fss_one (fs_ret (fe_lc (own := [("i", 7)]) (is := [7]) rfl nd (fi_range1 rfl T.b_range (fa_cons (fe_callB call_len lenM_ok rfl T.b_len (by decide +kernel) (fa_cons (fe_v 1) fa_nil)) fa_nil)) (blkOk_by (by kernel_rfl)) (fun _ _ _ _ _ => (fgi_name (i := 7) nd rfl (Or.inl rfl))) (fun _ _ _ _ _ => (fts_one (ft_cmp op_gt gtM_ok (fe_ix ix_seq ixM_ok (fe_ix ix_seq ixM_ok (fe_v 1) (fe_v 7)) (fe_v 5)) (fe_ix ix_seq ixM_ok (fe_ix ix_seq ixM_ok (fe_v 2) (fe_v 7)) (fe_v 5))))) (fun _ _ _ _ _ => (fe_tup (fa_cons (fe_c pe_int) (fa_cons (fe_v 7) fa_nil)))))))))), gF, F.kp, B⟩
abbrev s_reached_nodes : Stmt := topS 21
theorem sc_reached_nodes : FnScope ["rests", "wants", "cells", "low", "high", "came", "line", "k", "at", "node", "other"] ["rests", "wants", "cells", "low", "high"] (defScope s_reached_nodes) := ⟨rfl, rfl, rfl, by decide +kernel, rfl, by decide +kernel, by decide +kernel⟩
theorem ok_reached_nodes {P : Program} {w : World} {K : PySem.W.Frag} {mg : Str → Option Value} {base : Heap} {f : Addr} {fd : FuncData} (T : Tf K mg) (F : Fun K "reached_nodes" "reached_nodes" s_reached_nodes f fd) (gF : mg "reached_nodes" = some (.ref f)) (B : Binds K fd ["rests", "wants", "cells", "low", "high"] []) (D_nodes_next : Df P w K mg base "nodes_next" 1 4 r_nodes_next) :
    Df P w K mg base "reached_nodes" 2 5 r_reached_nodes :=
  ⟨f, fd, _, fn_ok (k := 1) F sc_reached_nodes 5 rfl 11 rfl (fun cdv A outer s H E hr tk hp =>
    have nd := (sc_reached_nodes).nd
    (fss_cons (fs_set (i := 5) nd rfl (Or.inl rfl) fe_dnewT)
    (fss_cons (fs_set (i := 6) nd rfl (Or.inl rfl) (fe_lst fa_nil))
    (fss_cons (fs_for hp rfl [7] (fi_range1 rfl T.b_range (fa_cons (fe_callB call_len lenM_ok rfl T.b_len (by decide +kernel) (fa_cons (fe_v 0) fa_nil)) fa_nil)) (fgi_name (i := 7) nd rfl (Or.inl rfl))
    (fss_one (fs_if (ft_cmp op_gt gtM_ok (fe_ix ix_seq ixM_ok (fe_v 0) (fe_v 7)) (fe_c pe_int))
    (fss_cons (fs_asg (fe_c pe_non) (fg_sub (fe_v 5) (fe_tup (fa_cons (fe_c pe_int) (fa_cons (fe_v 7) fa_nil))) (set_dict (Room.u1 hr)) setT_ok))
    (fss_one (fs_expr (fe_bm PySem.F.plainAttrs_list PySem.F.slot_list_append PySem.F.type_list_append mt_append isLs_ok appM_ok (fe_v 6) (fa_cons (fe_tup (fa_cons (fe_c pe_int) (fa_cons (fe_v 7) fa_nil))) fa_nil)))))
    fss_nil)))
    (fss_cons (fs_set (i := 8) nd rfl (Or.inl rfl) (fe_c pe_int))
    (fss_cons (fs_while hp [9, 10] (ft_cmp op_lt ltM_ok (fe_v 8) (fe_callB call_len lenM_ok rfl T.b_len (by decide +kernel) (fa_cons (fe_v 6) fa_nil)))
    (fss_cons (fs_set (i := 9) nd rfl (Or.inl rfl) (fe_ix ix_seq ixM_ok (fe_v 6) (fe_v 8)))
    (fss_cons (fs_if (FW.ft (fw_and (ft_cmp (op_eqD hr.units) eqM_ok (fe_ix ix_seq ixM_ok (fe_v 9) (fe_c pe_int)) (fe_c pe_int)) (fw_and1 (ft_cmp op_gt gtM_ok (fe_ix ix_seq ixM_ok (fe_v 1) (fe_ix ix_seq ixM_ok (fe_v 9) (fe_c pe_int))) (fe_c pe_int)))))
    (fss_one (fs_ret (fe_tup (fa_cons (fe_v 5) (fa_cons (fe_v 9) fa_nil)))))
    fss_nil)
    (fss_cons (fs_for hp rfl [10] (fi_list (fe_call' D_nodes_next hr (by decide) rfl tk (fa_cons (fe_v 9) (fa_cons (fe_v 2) (fa_cons (fe_v 3) (fa_cons (fe_v 4) fa_nil)))))) (fgi_name (i := 10) nd rfl (Or.inl rfl))
    (fss_one (fs_if (ft_dninT (Room.u1 hr) (fe_v 10) (fe_v 5))
    (fss_cons (fs_asg (fe_v 9) (fg_sub (fe_v 5) (fe_v 10) (set_dict (Room.u1 hr)) setT_ok))
    (fss_one (fs_expr (fe_bm PySem.F.plainAttrs_list PySem.F.slot_list_append PySem.F.type_list_append mt_append isLs_ok appM_ok (fe_v 6) (fa_cons (fe_v 10) fa_nil)))))
    fss_nil)))
    (fss_one (fs_aug (i := 8) nd rfl (Or.inl rfl) (fe_c pe_int) ip_add ipAdd_ok))))))
    (fss_one (fs_ret (fe_tup (fa_cons (fe_v 5) (fa_cons (fe_c pe_non) fa_nil))))))))))), gF, F.kp, B⟩
abbrev s_way_back : Stmt := topS 22
theorem sc_way_back : FnScope ["came", "node", "found"] ["came", "node"] (defScope s_way_back) := ⟨rfl, rfl, rfl, by decide +kernel, rfl, by decide +kernel, by decide +kernel⟩
theorem ok_way_back {P : Program} {w : World} {K : PySem.W.Frag} {mg : Str → Option Value} {base : Heap} {f : Addr} {fd : FuncData} (T : Tf K mg) (F : Fun K "way_back" "way_back" s_way_back f fd) (gF : mg "way_back" = some (.ref f)) (B : Binds K fd ["came", "node"] [])  :
    Df P w K mg base "way_back" 1 2 r_way_back :=
  ⟨f, fd, _, fn_ok (k := 0) F sc_way_back 2 rfl 3 rfl (fun cdv A outer s H E hr tk hp =>
    have nd := (sc_way_back).nd
    (fss_cons (fs_set (i := 2) nd rfl (Or.inl rfl) (fe_lst fa_nil))
    (fss_cons (fs_while hp [] (ft_cmp op_notN notNM_ok (fe_v 1) (fe_c pe_non))
    (fss_cons (fs_expr (fe_bm PySem.F.plainAttrs_list PySem.F.slot_list_append PySem.F.type_list_append mt_append isLs_ok appM_ok (fe_v 2) (fa_cons (fe_v 1) fa_nil)))
    (fss_one (fs_set (i := 1) nd rfl (Or.inl rfl) (fe_dixT (Room.u1 hr) (fe_v 0) (fe_v 1))))))
    (fss_one (fs_ret (fe_listRev rfl rfl T.b_list rfl T.b_reversed (fe_v 2))))))), gF, F.kp, B⟩
abbrev s_rooms_on : Stmt := topS 23
theorem sc_rooms_on : FnScope ["nodes", "cells", "low", "high", "found", "one", "other"] ["nodes", "cells", "low", "high"] (defScope s_rooms_on) := ⟨rfl, rfl, rfl, by decide +kernel, rfl, by decide +kernel, by decide +kernel⟩
theorem ok_rooms_on {P : Program} {w : World} {K : PySem.W.Frag} {mg : Str → Option Value} {base : Heap} {f : Addr} {fd : FuncData} (T : Tf K mg) (F : Fun K "rooms_on" "rooms_on" s_rooms_on f fd) (gF : mg "rooms_on" = some (.ref f)) (B : Binds K fd ["nodes", "cells", "low", "high"] [])  :
    Df P w K mg base "rooms_on" 1 4 r_rooms_on :=
  ⟨f, fd, _, fn_ok (k := 0) F sc_rooms_on 4 rfl 7 rfl (fun cdv A outer s H E hr tk hp =>
    have nd := (sc_rooms_on).nd
    (fss_cons (fs_set (i := 4) nd rfl (Or.inl rfl) (fe_lst fa_nil))
    (fss_cons (fs_for hp rfl [5, 6] (fi_zip rfl T.b_zip (fa_cons (fe_sl (fe_v 0) fo_none (fo_some (fe_un un_neg negM_ok (fe_c pe_int)))) (fa_cons (fe_sl (fe_v 0) (fo_some (fe_c pe_int)) fo_none) fa_nil))) (fgi_tup (is := [5, 6]) rfl (fgs_cons (i := 5) nd rfl (Or.inl rfl) (fgs_cons (i := 6) nd rfl (Or.inl rfl) fgs_nil)))
    (fss_one (fs_if (ft_cmp (op_eqD hr.units) eqM_ok (fe_ix ix_seq ixM_ok (fe_v 5) (fe_c pe_int)) (fe_c pe_int))
    (fss_one (fs_expr (fe_bm PySem.F.plainAttrs_list PySem.F.slot_list_append PySem.F.type_list_append mt_append isLs_ok appM_ok (fe_v 4) (fa_cons (fe_op op_sub subM_ok (fe_ix ix_seq ixM_ok (fe_ix ix_seq ixM_ok (fe_v 3) (fe_ix ix_seq ixM_ok (fe_v 5) (fe_c pe_int))) (fe_ix ix_seq ixM_ok (fe_v 6) (fe_c pe_int))) (fe_ix ix_seq ixM_ok (fe_ix ix_seq ixM_ok (fe_v 1) (fe_ix ix_seq ixM_ok (fe_v 5) (fe_c pe_int))) (fe_ix ix_seq ixM_ok (fe_v 6) (fe_c pe_int)))) fa_nil))))
    (fss_one (fs_expr (fe_bm PySem.F.plainAttrs_list PySem.F.slot_list_append PySem.F.type_list_append mt_append isLs_ok appM_ok (fe_v 4) (fa_cons (fe_op op_sub subM_ok (fe_ix ix_seq ixM_ok (fe_ix ix_seq ixM_ok (fe_v 1) (fe_ix ix_seq ixM_ok (fe_v 6) (fe_c pe_int))) (fe_ix ix_seq ixM_ok (fe_v 5) (fe_c pe_int))) (fe_ix ix_seq ixM_ok (fe_ix ix_seq ixM_ok (fe_v 2) (fe_ix ix_seq ixM_ok (fe_v 6) (fe_c pe_int))) (fe_ix ix_seq ixM_ok (fe_v 5) (fe_c pe_int)))) fa_nil)))))))
    (fss_one (fs_ret (fe_v 4)))))), gF, F.kp, B⟩
abbrev s_pushed_along : Stmt := topS 24
theorem sc_pushed_along : FnScope ["nodes", "cells", "amount", "one", "other"] ["nodes", "cells", "amount"] (defScope s_pushed_along) := ⟨rfl, rfl, rfl, by decide +kernel, rfl, by decide +kernel, by decide +kernel⟩
theorem ok_pushed_along {P : Program} {w : World} {K : PySem.W.Frag} {mg : Str → Option Value} {base : Heap} {f : Addr} {fd : FuncData} (T : Tf K mg) (F : Fun K "pushed_along" "pushed_along" s_pushed_along f fd) (gF : mg "pushed_along" = some (.ref f)) (B : Binds K fd ["nodes", "cells", "amount"] [])  :
    Df P w K mg base "pushed_along" 1 3 r_pushed_along :=
  ⟨f, fd, _, fn_ok (k := 0) F sc_pushed_along 3 rfl 5 rfl (fun cdv A outer s H E hr tk hp =>
    have nd := (sc_pushed_along).nd
    (fss_one (fs_for hp rfl [3, 4] (fi_zip rfl T.b_zip (fa_cons (fe_sl (fe_v 0) fo_none (fo_some (fe_un un_neg negM_ok (fe_c pe_int)))) (fa_cons (fe_sl (fe_v 0) (fo_some (fe_c pe_int)) fo_none) fa_nil))) (fgi_tup (is := [3, 4]) rfl (fgs_cons (i := 3) nd rfl (Or.inl rfl) (fgs_cons (i := 4) nd rfl (Or.inl rfl) fgs_nil)))
    (fss_one (fs_if (ft_cmp (op_eqD hr.units) eqM_ok (fe_ix ix_seq ixM_ok (fe_v 3) (fe_c pe_int)) (fe_c pe_int))
    (fss_one (fs_augS (fe_ix ix_seq ixM_ok (fe_v 1) (fe_ix ix_seq ixM_ok (fe_v 3) (fe_c pe_int))) (fe_ix ix_seq ixM_ok (fe_v 4) (fe_c pe_int)) get_list getL_ok (fe_v 2) ip_add ipAdd_ok set_list setL_ok))
    (fss_one (fs_augS (fe_ix ix_seq ixM_ok (fe_v 1) (fe_ix ix_seq ixM_ok (fe_v 4) (fe_c pe_int))) (fe_ix ix_seq ixM_ok (fe_v 3) (fe_c pe_int)) get_list getL_ok (fe_v 2) ip_sub ipSub_ok set_list setL_ok))))))), gF, F.kp, B⟩
abbrev s_cut_of : Stmt := topS 25
theorem sc_cut_of : FnScope ["came", "some", "node"] ["came"] (defScope s_cut_of) := ⟨rfl, rfl, rfl, by decide +kernel, rfl, by decide +kernel, by decide +kernel⟩
theorem ok_cut_of {P : Program} {w : World} {K : PySem.W.Frag} {mg : Str → Option Value} {base : Heap} {f : Addr} {fd : FuncData} (T : Tf K mg) (F : Fun K "cut_of" "cut_of" s_cut_of f fd) (gF : mg "cut_of" = some (.ref f)) (B : Binds K fd ["came"] [])  :
    Df P w K mg base "cut_of" 1 1 r_cut_of :=
  ⟨f, fd, _, fn_ok (k := 0) F sc_cut_of 1 rfl 3 rfl (fun cdv A outer s H E hr tk hp =>
    have nd := (sc_cut_of).nd
    (fss_cons (fs_set (i := 1) nd rfl (Or.inl rfl) (fe_callB cr_sortedI sortM_ok rfl T.b_sorted (by decide +kernel) (fa_cons (fe_lcK (own := [("node", 2)]) (is := [2]) (j := 0) rfl nd rfl (by first | exact Or.inl rfl | exact Or.inr (Or.inl rfl) | exact Or.inr (Or.inr rfl)) (blkOk_by (by kernel_rfl)) (fun _ _ _ _ _ => (fgi_name (i := 2) nd rfl (Or.inl rfl))) (fun _ _ _ _ _ => (fts_one (ft_cmp (op_eqD hr.units) eqM_ok (fe_ix ix_seq ixM_ok (fe_v 2) (fe_c pe_int)) (fe_c pe_int)))) (fun _ _ _ _ _ => (fe_ix ix_seq ixM_ok (fe_v 2) (fe_c pe_int)))) fa_nil)))
    (fss_one (fs_ret (fe_tup (fa_cons (fe_c pe_str) (fa_cons (fe_v 1) (fa_cons (fe_callB cr_sortedI sortM_ok rfl T.b_sorted (by decide +kernel) (fa_cons (fe_lcK (own := [("node", 2)]) (is := [2]) (j := 0) rfl nd rfl (by first | exact Or.inl rfl | exact Or.inr (Or.inl rfl) | exact Or.inr (Or.inr rfl)) (blkOk_by (by kernel_rfl)) (fun _ _ _ _ _ => (fgi_name (i := 2) nd rfl (Or.inl rfl))) (fun _ _ _ _ _ => (fts_one (ft_cmp (op_eqD hr.units) eqM_ok (fe_ix ix_seq ixM_ok (fe_v 2) (fe_c pe_int)) (fe_c pe_int)))) (fun _ _ _ _ _ => (fe_ix ix_seq ixM_ok (fe_v 2) (fe_c pe_int)))) fa_nil)) fa_nil)))))))), gF, F.kp, B⟩
abbrev s_cut_below : Stmt := topS 26
theorem sc_cut_below : FnScope ["rests", "wants", "k", "i"] ["rests", "wants"] (defScope s_cut_below) := ⟨rfl, rfl, rfl, by decide +kernel, rfl, by decide +kernel, by decide +kernel⟩
theorem ok_cut_below {P : Program} {w : World} {K : PySem.W.Frag} {mg : Str → Option Value} {base : Heap} {f : Addr} {fd : FuncData} (T : Tf K mg) (F : Fun K "cut_below" "cut_below" s_cut_below f fd) (gF : mg "cut_below" = some (.ref f)) (B : Binds K fd ["rests", "wants"] [])  :
    Df P w K mg base "cut_below" 1 2 r_cut_below :=
  ⟨f, fd, _, fn_ok (k := 0) F sc_cut_below 2 rfl 4 rfl (fun cdv A outer s H E hr tk hp =>
    have nd := (sc_cut_below).nd
    (fss_cons (fs_for hp rfl [2] (fi_range1 rfl T.b_range (fa_cons (fe_callB call_len lenM_ok rfl T.b_len (by decide +kernel) (fa_cons (fe_v 0) fa_nil)) fa_nil)) (fgi_name (i := 2) nd rfl (Or.inr rfl))
    (fss_one (fs_if (ft_cmp op_lt ltM_ok (fe_ix ix_seq ixM_ok (fe_v 0) (fe_v 2)) (fe_c pe_int))
    (fss_one (fs_ret (fe_tup (fa_cons (fe_c pe_str) (fa_cons (fe_lc (own := [("i", 3)]) (is := [3]) rfl nd (fi_range1 rfl T.b_range (fa_cons (fe_callB call_len lenM_ok rfl T.b_len (by decide +kernel) (fa_cons (fe_v 0) fa_nil)) fa_nil)) (blkOk_by (by kernel_rfl)) (fun _ _ _ _ _ => (fgi_name (i := 3) nd rfl (Or.inl rfl))) (fun _ _ _ _ _ => (fts_one (ft_cmp (op_neD hr.units) neM_ok (fe_v 3) (fe_v 2)))) (fun _ _ _ _ _ => (fe_v 3))) (fa_cons (fe_lr1 rfl rfl T.b_list rfl T.b_range (fe_callB call_len lenM_ok rfl T.b_len (by decide +kernel) (fa_cons (fe_v 1) fa_nil))) fa_nil))))))
    fss_nil)))
    (fss_cons (fs_for hp rfl [2] (fi_range1 rfl T.b_range (fa_cons (fe_callB call_len lenM_ok rfl T.b_len (by decide +kernel) (fa_cons (fe_v 1) fa_nil)) fa_nil)) (fgi_name (i := 2) nd rfl (Or.inr rfl))
    (fss_one (fs_if (ft_cmp op_lt ltM_ok (fe_ix ix_seq ixM_ok (fe_v 1) (fe_v 2)) (fe_c pe_int))
    (fss_one (fs_ret (fe_tup (fa_cons (fe_c pe_str) (fa_cons (fe_lst fa_nil) (fa_cons (fe_lst (fa_cons (fe_v 2) fa_nil)) fa_nil))))))
    fss_nil)))
    (fss_one (fs_ret (fe_c pe_non)))))), gF, F.kp, B⟩
abbrev s_filled_up : Stmt := topS 27
theorem sc_filled_up : FnScope ["rests", "wants", "low", "high", "cells", "line", "came", "node", "nodes", "first", "last", "amount"] ["rests", "wants", "low", "high"] (defScope s_filled_up) := ⟨rfl, rfl, rfl, by decide +kernel, rfl, by decide +kernel, by decide +kernel⟩
theorem ok_filled_up {P : Program} {w : World} {K : PySem.W.Frag} {mg : Str → Option Value} {base : Heap} {f : Addr} {fd : FuncData} (T : Tf K mg) (F : Fun K "filled_up" "filled_up" s_filled_up f fd) (gF : mg "filled_up" = some (.ref f)) (B : Binds K fd ["rests", "wants", "low", "high"] []) (D_reached_nodes : Df P w K mg base "reached_nodes" 2 5 r_reached_nodes) (D_way_back : Df P w K mg base "way_back" 1 2 r_way_back) (D_pushed_along : Df P w K mg base "pushed_along" 1 3 r_pushed_along) (D_cut_of : Df P w K mg base "cut_of" 1 1 r_cut_of) (D_rooms_on : Df P w K mg base "rooms_on" 1 4 r_rooms_on) :
    Df P w K mg base "filled_up" 3 4 r_filled_up :=
  ⟨f, fd, _, fn_ok (k := 2) F sc_filled_up 4 rfl 12 rfl (fun cdv A outer s H E hr tk hp =>
    have nd := (sc_filled_up).nd
    (fss_cons (fs_setLc (i := 4) (own := [("line", 5)]) (is := [5]) rfl nd rfl rfl (sw_true rfl rfl rfl (by decide +kernel)) (fi_list (fe_v 2)) (blkOk_by (by kernel_rfl)) (fun _ _ _ _ _ => (fgi_name (i := 5) nd rfl (Or.inl rfl))) (fun _ _ _ _ _ => fts_nil) (fun _ _ _ _ _ => (fe_callTy call_list_of listM_ok rfl T.b_list (by decide +kernel) (fa_cons (fe_v 5) fa_nil))))
    (fss_cons (fs_asg (fe_call' D_reached_nodes hr (by decide) rfl tk (fa_cons (fe_v 0) (fa_cons (fe_v 1) (fa_cons (fe_v 4) (fa_cons (fe_v 2) (fa_cons (fe_v 3) fa_nil)))))) (fg_sq rfl (fgs_cons (i := 6) nd rfl (Or.inl rfl) (fgs_cons (i := 7) nd rfl (Or.inl rfl) fgs_nil))))
    (fss_cons (fs_while hp [8, 9, 10, 11] (ft_cmp op_notN notNM_ok (fe_v 7) (fe_c pe_non))
    (fss_cons (fs_set (i := 8) nd rfl (Or.inl rfl) (fe_call' D_way_back hr (by decide) rfl tk (fa_cons (fe_v 6) (fa_cons (fe_v 7) fa_nil))))
    (fss_cons (fs_set (i := 9) nd rfl (Or.inl rfl) (fe_ix ix_seq ixM_ok (fe_ix ix_seq ixM_ok (fe_v 8) (fe_c pe_int)) (fe_c pe_int)))
    (fss_cons (fs_set (i := 10) nd rfl (Or.inl rfl) (fe_ix ix_seq ixM_ok (fe_v 7) (fe_c pe_int)))
    (fss_cons (fs_set (i := 11) nd rfl (Or.inl rfl) (fe_callB (call_minA rfl) minM_ok rfl T.b_min (by decide +kernel) (fa_cons (fe_op op_addA addM_ok (fe_call' D_rooms_on hr (by decide) rfl tk (fa_cons (fe_v 8) (fa_cons (fe_v 4) (fa_cons (fe_v 2) (fa_cons (fe_v 3) fa_nil))))) (fe_lst (fa_cons (fe_ix ix_seq ixM_ok (fe_v 0) (fe_v 9)) (fa_cons (fe_ix ix_seq ixM_ok (fe_v 1) (fe_v 10)) fa_nil)))) fa_nil)))
    (fss_cons (fs_expr (fe_call' D_pushed_along hr (by decide) rfl tk (fa_cons (fe_v 8) (fa_cons (fe_v 4) (fa_cons (fe_v 11) fa_nil)))))
    (fss_cons (fs_augS (fe_v 0) (fe_v 9) get_list getL_ok (fe_v 11) ip_sub ipSub_ok set_list setL_ok)
    (fss_cons (fs_augS (fe_v 1) (fe_v 10) get_list getL_ok (fe_v 11) ip_sub ipSub_ok set_list setL_ok)
    (fss_one (fs_asg (fe_call' D_reached_nodes hr (by decide) rfl tk (fa_cons (fe_v 0) (fa_cons (fe_v 1) (fa_cons (fe_v 4) (fa_cons (fe_v 2) (fa_cons (fe_v 3) fa_nil)))))) (fg_sq rfl (fgs_cons (i := 6) nd rfl (Or.inl rfl) (fgs_cons (i := 7) nd rfl (Or.inl rfl) fgs_nil)))))))))))))
    (fss_cons (fs_if (ft_cmp op_gt gtM_ok (fe_callB call_len_dT lenDT_ok rfl T.b_len (by decide +kernel) (fa_cons (fe_v 6) fa_nil)) (fe_c pe_int))
    (fss_one (fs_ret (fe_call' D_cut_of hr (by decide) rfl tk (fa_cons (fe_v 6) fa_nil))))
    fss_nil)
    (fss_one (fs_ret (fe_tup (fa_cons (fe_c pe_str) (fa_cons (fe_v 4) fa_nil)))))))))), gF, F.kp, B⟩
abbrev s_table_between : Stmt := topS 28
theorem sc_table_between : FnScope ["rows", "columns", "low", "high", "some", "others", "one", "other", "rests", "wants", "found"] ["rows", "columns", "low", "high"] (defScope s_table_between) := ⟨rfl, rfl, rfl, by decide +kernel, rfl, by decide +kernel, by decide +kernel⟩
theorem ok_table_between {P : Program} {w : World} {K : PySem.W.Frag} {mg : Str → Option Value} {base : Heap} {f : Addr} {fd : FuncData} (T : Tf K mg) (F : Fun K "table_between" "table_between" s_table_between f fd) (gF : mg "table_between" = some (.ref f)) (B : Binds K fd ["rows", "columns", "low", "high"] []) (D_cut_below : Df P w K mg base "cut_below" 1 2 r_cut_below) (D_filled_up : Df P w K mg base "filled_up" 3 4 r_filled_up) (D_sums_of_rows : Df P w K mg base "sums_of_rows" 1 1 r_sums_of_rows) (D_sums_of_columns : Df P w K mg base "sums_of_columns" 2 1 r_sums_of_columns) :
    Df P w K mg base "table_between" 4 4 r_table_between :=
  ⟨f, fd, _, fn_ok (k := 3) F sc_table_between 4 rfl 11 rfl (fun cdv A outer s H E hr tk hp =>
    have nd := (sc_table_between).nd
    (fss_cons (fs_for hp rfl [4, 5, 6, 7] (fi_zip rfl T.b_zip (fa_cons (fe_v 2) (fa_cons (fe_v 3) fa_nil))) (fgi_tup (is := [4, 5]) rfl (fgs_cons (i := 4) nd rfl (Or.inl rfl) (fgs_cons (i := 5) nd rfl (Or.inl rfl) fgs_nil)))
    (fss_one (fs_for hp rfl [6, 7] (fi_zip rfl T.b_zip (fa_cons (fe_v 4) (fa_cons (fe_v 5) fa_nil))) (fgi_tup (is := [6, 7]) rfl (fgs_cons (i := 6) nd rfl (Or.inl rfl) (fgs_cons (i := 7) nd rfl (Or.inl rfl) fgs_nil)))
    (fss_one (fs_if (ft_cmp op_gt gtM_ok (fe_v 6) (fe_v 7))
    (fss_one (fs_raise' rfl tk T.o_NoBounds rfl))
    fss_nil)))))
    (fss_cons (fs_if (ft_cmp (op_neD hr.units) neM_ok (fe_callB (cr_sum rfl) sumM_ok rfl T.b_sum (by decide +kernel) (fa_cons (fe_v 0) fa_nil)) (fe_callB (cr_sum rfl) sumM_ok rfl T.b_sum (by decide +kernel) (fa_cons (fe_v 1) fa_nil)))
    (fss_one (fs_ret (fe_tup (fa_cons (fe_c pe_str) (fa_cons (fe_callB (cr_sum rfl) sumM_ok rfl T.b_sum (by decide +kernel) (fa_cons (fe_v 0) fa_nil)) (fa_cons (fe_callB (cr_sum rfl) sumM_ok rfl T.b_sum (by decide +kernel) (fa_cons (fe_v 1) fa_nil)) fa_nil))))))
    fss_nil)
    (fss_cons (fs_setLc (i := 8) (own := [("one", 6), ("other", 7)]) (is := [6, 7]) (g := gTup K (List.length [6, 7]) (gCons (gName 6) (gCons (gName 7) gNil))) rfl nd rfl rfl (sw_true rfl rfl rfl (by decide +kernel)) (fi_zip rfl T.b_zip (fa_cons (fe_v 0) (fa_cons (fe_call' D_sums_of_rows hr (by decide) rfl tk (fa_cons (fe_v 2) fa_nil)) fa_nil))) (blkOk_by (by kernel_rfl)) (fun _ _ _ _ _ => (fgi_tup (is := [6, 7]) rfl (fgs_cons (i := 6) nd rfl (Or.inl rfl) (fgs_cons (i := 7) nd rfl (Or.inl rfl) fgs_nil)))) (fun _ _ _ _ _ => fts_nil) (fun _ _ _ _ _ => (fe_op op_sub subM_ok (fe_v 6) (fe_v 7))))
    (fss_cons (fs_setLc (i := 9) (own := [("one", 6), ("other", 7)]) (is := [6, 7]) (g := gTup K (List.length [6, 7]) (gCons (gName 6) (gCons (gName 7) gNil))) rfl nd rfl rfl (sw_true rfl rfl rfl (by decide +kernel)) (fi_zip rfl T.b_zip (fa_cons (fe_v 1) (fa_cons (fe_call' D_sums_of_columns hr (by decide) rfl tk (fa_cons (fe_v 2) fa_nil)) fa_nil))) (blkOk_by (by kernel_rfl)) (fun _ _ _ _ _ => (fgi_tup (is := [6, 7]) rfl (fgs_cons (i := 6) nd rfl (Or.inl rfl) (fgs_cons (i := 7) nd rfl (Or.inl rfl) fgs_nil)))) (fun _ _ _ _ _ => fts_nil) (fun _ _ _ _ _ => (fe_op op_sub subM_ok (fe_v 6) (fe_v 7))))
    (fss_cons (fs_set (i := 10) nd rfl (Or.inl rfl) (fe_call' D_cut_below hr (by decide) rfl tk (fa_cons (fe_v 8) (fa_cons (fe_v 9) fa_nil))))
    (fss_cons (fs_if (ft_cmp op_isN isNM_ok (fe_v 10) (fe_c pe_non))
    (fss_one (fs_set (i := 10) nd rfl (Or.inl rfl) (fe_call' D_filled_up hr (by decide) rfl tk (fa_cons (fe_v 8) (fa_cons (fe_v 9) (fa_cons (fe_v 2) (fa_cons (fe_v 3) fa_nil)))))))
    fss_nil)
    (fss_one (fs_ret (fe_v 10)))))))))), gF, F.kp, B⟩
abbrev s_one_changed : Stmt := topS 30
theorem sc_one_changed : FnScope ["rows", "columns", "cell", "number", "other", "found", "j", "i"] ["rows", "columns", "cell", "number", "other"] (defScope s_one_changed) := ⟨rfl, rfl, rfl, by decide +kernel, rfl, by decide +kernel, by decide +kernel⟩
theorem ok_one_changed {P : Program} {w : World} {K : PySem.W.Frag} {mg : Str → Option Value} {base : Heap} {f : Addr} {fd : FuncData} (T : Tf K mg) (F : Fun K "one_changed" "one_changed" s_one_changed f fd) (gF : mg "one_changed" = some (.ref f)) (B : Binds K fd ["rows", "columns", "cell", "number", "other"] [])  :
    Df P w K mg base "one_changed" 1 5 r_one_changed :=
  ⟨f, fd, _, fn_ok (k := 0) F sc_one_changed 5 rfl 8 rfl (fun cdv A outer s H E hr tk hp =>
    have nd := (sc_one_changed).nd
    (fss_cons (fs_setLc (i := 5) (own := [("i", 7)]) (is := [7]) rfl nd rfl rfl (sw_true rfl rfl rfl (by decide +kernel)) (fi_range1 rfl T.b_range (fa_cons (fe_callB call_len lenM_ok rfl T.b_len (by decide +kernel) (fa_cons (fe_v 0) fa_nil)) fa_nil)) (blkOk_by (by kernel_rfl)) (fun _ _ _ _ _ => (fgi_name (i := 7) nd rfl (Or.inl rfl))) (fun _ _ _ _ _ => fts_nil) (fun _ _ _ _ _ => (fe_lc (own := [("j", 6)]) (is := [6]) rfl nd (fi_range1 rfl T.b_range (fa_cons (fe_callB call_len lenM_ok rfl T.b_len (by decide +kernel) (fa_cons (fe_v 1) fa_nil)) fa_nil)) (blkOk_by (by kernel_rfl)) (fun _ _ _ _ _ => (fgi_name (i := 6) nd rfl (Or.inl rfl))) (fun _ _ _ _ _ => fts_nil) (fun _ _ _ _ _ => (fe_v 3)))))
    (fss_cons (fs_asg (fe_v 4) (fg_sub (fe_ix ix_seq ixM_ok (fe_v 5) (fe_ix ix_seq ixM_ok (fe_v 2) (fe_c pe_int))) (fe_ix ix_seq ixM_ok (fe_v 2) (fe_c pe_int)) set_list setL_ok))
    (fss_one (fs_ret (fe_v 5)))))), gF, F.kp, B⟩
abbrev s_fate_of : Stmt := topS 31
theorem sc_fate_of : FnScope ["rows", "columns", "cell", "none", "full", "with_one", "with_none"] ["rows", "columns", "cell"] (defScope s_fate_of) := ⟨rfl, rfl, rfl, by decide +kernel, rfl, by decide +kernel, by decide +kernel⟩
theorem ok_fate_of {P : Program} {w : World} {K : PySem.W.Frag} {mg : Str → Option Value} {base : Heap} {f : Addr} {fd : FuncData} (T : Tf K mg) (F : Fun K "fate_of" "fate_of" s_fate_of f fd) (gF : mg "fate_of" = some (.ref f)) (B : Binds K fd ["rows", "columns", "cell"] []) (D_one_changed : Df P w K mg base "one_changed" 1 5 r_one_changed) (D_table_between : Df P w K mg base "table_between" 4 4 r_table_between) :
    Df P w K mg base "fate_of" 5 3 r_fate_of :=
  ⟨f, fd, _, fn_ok (k := 4) F sc_fate_of 3 rfl 7 rfl (fun cdv A outer s H E hr tk hp =>
    have nd := (sc_fate_of).nd
    (fss_cons (fs_if (FW.ft (fw_or (ft_not (ft_chain op_le leM_ok op_lt ltM_ok (fe_c pe_int) (fe_ix ix_seq ixM_ok (fe_v 2) (fe_c pe_int)) (fe_callB call_len lenM_ok rfl T.b_len (by decide +kernel) (fa_cons (fe_v 0) fa_nil)))) (fw_or1 (ft_not (ft_chain op_le leM_ok op_lt ltM_ok (fe_c pe_int) (fe_ix ix_seq ixM_ok (fe_v 2) (fe_c pe_int)) (fe_callB call_len lenM_ok rfl T.b_len (by decide +kernel) (fa_cons (fe_v 1) fa_nil)))))))
    (fss_one (fs_raise' rfl tk T.o_NoPlace rfl))
    fss_nil)
    (fss_cons (fs_set (i := 3) nd rfl (Or.inl rfl) (fe_call' D_one_changed hr (by decide) rfl tk (fa_cons (fe_v 0) (fa_cons (fe_v 1) (fa_cons (fe_v 2) (fa_cons (fe_c pe_int) (fa_cons (fe_c pe_int) fa_nil)))))))
    (fss_cons (fs_set (i := 4) nd rfl (Or.inl rfl) (fe_call' D_one_changed hr (by decide) rfl tk (fa_cons (fe_v 0) (fa_cons (fe_v 1) (fa_cons (fe_v 2) (fa_cons (fe_c pe_int) (fa_cons (fe_c pe_int) fa_nil)))))))
    (fss_cons (fs_set (i := 5) nd rfl (Or.inl rfl) (fe_call' D_table_between hr (by decide) rfl tk (fa_cons (fe_v 0) (fa_cons (fe_v 1) (fa_cons (fe_call' D_one_changed hr (by decide) rfl tk (fa_cons (fe_v 0) (fa_cons (fe_v 1) (fa_cons (fe_v 2) (fa_cons (fe_c pe_int) (fa_cons (fe_c pe_int) fa_nil)))))) (fa_cons (fe_v 4) fa_nil))))))
    (fss_cons (fs_set (i := 6) nd rfl (Or.inl rfl) (fe_call' D_table_between hr (by decide) rfl tk (fa_cons (fe_v 0) (fa_cons (fe_v 1) (fa_cons (fe_v 3) (fa_cons (fe_call' D_one_changed hr (by decide) rfl tk (fa_cons (fe_v 0) (fa_cons (fe_v 1) (fa_cons (fe_v 2) (fa_cons (fe_c pe_int) (fa_cons (fe_c pe_int) fa_nil)))))) fa_nil))))))
    (fss_cons (fs_if (FW.ft (fw_and (ft_cmp (op_neD hr.units) neM_ok (fe_ix ix_seq ixM_ok (fe_v 5) (fe_c pe_int)) (fe_c pe_str)) (fw_and1 (ft_cmp (op_neD hr.units) neM_ok (fe_ix ix_seq ixM_ok (fe_v 6) (fe_c pe_int)) (fe_c pe_str)))))
    (fss_one (fs_raise' rfl tk T.o_NoSums rfl))
    fss_nil)
    (fss_cons (fs_if (ft_cmp (op_neD hr.units) neM_ok (fe_ix ix_seq ixM_ok (fe_v 5) (fe_c pe_int)) (fe_c pe_str))
    (fss_one (fs_ret (fe_tup (fa_cons (fe_c pe_str) (fa_cons (fe_ix ix_seq ixM_ok (fe_v 5) (fe_c pe_int)) (fa_cons (fe_ix ix_seq ixM_ok (fe_v 5) (fe_c pe_int)) fa_nil))))))
    fss_nil)
    (fss_cons (fs_if (ft_cmp (op_neD hr.units) neM_ok (fe_ix ix_seq ixM_ok (fe_v 6) (fe_c pe_int)) (fe_c pe_str))
    (fss_one (fs_ret (fe_tup (fa_cons (fe_c pe_str) (fa_cons (fe_ix ix_seq ixM_ok (fe_v 6) (fe_c pe_int)) (fa_cons (fe_ix ix_seq ixM_ok (fe_v 6) (fe_c pe_int)) fa_nil))))))
    fss_nil)
    (fss_one (fs_ret (fe_tup (fa_cons (fe_c pe_str) (fa_cons (fe_ix ix_seq ixM_ok (fe_v 6) (fe_c pe_int)) (fa_cons (fe_ix ix_seq ixM_ok (fe_v 5) (fe_c pe_int)) fa_nil))))))))))))))), gF, F.kp, B⟩
abbrev s__law_whole : Stmt := topS 33
theorem sc__law_whole : FnScope ["_law_found"] ["_law_found"] (defScope s__law_whole) := ⟨rfl, rfl, rfl, by decide +kernel, rfl, by decide +kernel, by decide +kernel⟩
theorem ok__law_whole {P : Program} {w : World} {K : PySem.W.Frag} {mg : Str → Option Value} {base : Heap} {f : Addr} {fd : FuncData} (T : Tf K mg) (F : Fun K "_law_whole" "_law_whole" s__law_whole f fd) (gF : mg "_law_whole" = some (.ref f)) (B : Binds K fd ["_law_found"] [])  :
    Df P w K mg base "_law_whole" 1 1 r__law_whole :=
  ⟨f, fd, _, fn_ok (k := 0) F sc__law_whole 1 rfl 1 rfl (fun cdv A outer s H E hr tk hp =>
    have nd := (sc__law_whole).nd
    (fss_one (fs_ret (fe_and (fe_callB call_isi isiM_ok rfl T.b_isinstance (by decide +kernel) (fa_cons (fe_v 0) (fa_cons (fe_c (pe_bltn (v := .ty "int") rfl T.b_int (by decide +kernel) rfl)) fa_nil))) (fe_one (fe_not (fe_callB call_isi isiM_ok rfl T.b_isinstance (by decide +kernel) (fa_cons (fe_v 0) (fa_cons (fe_c (pe_bltn (v := .ty "bool") rfl T.b_bool (by decide +kernel) rfl)) fa_nil))))))))), gF, F.kp, B⟩
abbrev s__law_deck : Stmt := topS 34
theorem sc__law_deck : FnScope ["_law_script", "_law_many", "_law_found", "_law_number", "_law_cell", "_law_k"] ["_law_script", "_law_many"] (defScope s__law_deck) := ⟨rfl, rfl, rfl, by decide +kernel, rfl, by decide +kernel, by decide +kernel⟩
theorem ok__law_deck {P : Program} {w : World} {K : PySem.W.Frag} {mg : Str → Option Value} {base : Heap} {f : Addr} {fd : FuncData} (T : Tf K mg) (F : Fun K "_law_deck" "_law_deck" s__law_deck f fd) (gF : mg "_law_deck" = some (.ref f)) (B : Binds K fd ["_law_script", "_law_many"] [])  :
    Df P w K mg base "_law_deck" 1 2 r__law_deck :=
  ⟨f, fd, _, fn_ok (k := 0) F sc__law_deck 2 rfl 6 rfl (fun cdv A outer s H E hr tk hp =>
    have nd := (sc__law_deck).nd
    (fss_cons (fs_set (i := 2) nd rfl (Or.inl rfl) (fe_lst fa_nil))
    (fss_cons (fs_set (i := 3) nd rfl (Or.inl rfl) (fe_op op_addA addM_ok (fe_c pe_int) (fe_callB call_len lenM_ok rfl T.b_len (by decide +kernel) (fa_cons (fe_v 0) fa_nil))))
    (fss_cons (fs_for hp rfl [4] (fi_list (fe_v 0)) (fgi_name (i := 4) nd rfl (Or.inl rfl))
    (fss_one (fs_set (i := 3) nd rfl (Or.inl rfl) (fe_op op_mod modM_ok (fe_op op_addA addM_ok (fe_op op_mulA mulM_ok (fe_v 3) (fe_c pe_int)) (fe_v 4)) (fe_c pe_int)))))
    (fss_cons (fs_for hp rfl [5] (fi_range1 rfl T.b_range (fa_cons (fe_v 1) fa_nil)) (fgi_name (i := 5) nd rfl (Or.inl rfl))
    (fss_cons (fs_set (i := 3) nd rfl (Or.inl rfl) (fe_op op_mod modM_ok (fe_op op_addA addM_ok (fe_op op_addA addM_ok (fe_op op_mulA mulM_ok (fe_v 3) (fe_c pe_int)) (fe_c pe_int)) (fe_v 5)) (fe_c pe_int)))
    (fss_one (fs_if (ft_cmp op_lt ltM_ok (fe_v 5) (fe_callB call_len lenM_ok rfl T.b_len (by decide +kernel) (fa_cons (fe_v 0) fa_nil)))
    (fss_one (fs_expr (fe_bm PySem.F.plainAttrs_list PySem.F.slot_list_append PySem.F.type_list_append mt_append isLs_ok appM_ok (fe_v 2) (fa_cons (fe_op op_mod modM_ok (fe_ix ix_seq ixM_ok (fe_v 0) (fe_v 5)) (fe_op op_pow powM_ok (fe_c pe_int) (fe_c pe_int))) fa_nil))))
    (fss_one (fs_expr (fe_bm PySem.F.plainAttrs_list PySem.F.slot_list_append PySem.F.type_list_append mt_append isLs_ok appM_ok (fe_v 2) (fa_cons (fe_v 3) fa_nil))))))))
    (fss_one (fs_ret (fe_v 2)))))))), gF, F.kp, B⟩
abbrev s__law_shape : Stmt := topS 35
theorem sc__law_shape : FnScope ["_law_cell"] ["_law_cell"] (defScope s__law_shape) := ⟨rfl, rfl, rfl, by decide +kernel, rfl, by decide +kernel, by decide +kernel⟩
theorem ok__law_shape {P : Program} {w : World} {K : PySem.W.Frag} {mg : Str → Option Value} {base : Heap} {f : Addr} {fd : FuncData} (T : Tf K mg) (F : Fun K "_law_shape" "_law_shape" s__law_shape f fd) (gF : mg "_law_shape" = some (.ref f)) (B : Binds K fd ["_law_cell"] [])  :
    Df P w K mg base "_law_shape" 1 1 r__law_shape :=
  ⟨f, fd, _, fn_ok (k := 0) F sc__law_shape 1 rfl 1 rfl (fun cdv A outer s H E hr tk hp =>
    have nd := (sc__law_shape).nd
    (fss_cons (fs_if (ft_cmp (op_eqD hr.units) eqM_ok (fe_op op_mod modM_ok (fe_v 0) (fe_c pe_int)) (fe_c pe_int))
    (fss_one (fs_ret (fe_lst (fa_cons (fe_op op_addA addM_ok (fe_c pe_int) (fe_op op_mod modM_ok (fe_op op_fdivW fdivM_ok (fe_v 0) (fe_c pe_int)) (fe_c pe_int))) (fa_cons (fe_op op_addA addM_ok (fe_c pe_int) (fe_op op_mod modM_ok (fe_op op_fdivW fdivM_ok (fe_v 0) (fe_c pe_int)) (fe_c pe_int))) fa_nil)))))
    fss_nil)
    (fss_one (fs_ret (fe_lst (fa_cons (fe_op op_addA addM_ok (fe_c pe_int) (fe_op op_mod modM_ok (fe_op op_fdivW fdivM_ok (fe_v 0) (fe_c pe_int)) (fe_c pe_int))) (fa_cons (fe_op op_addA addM_ok (fe_c pe_int) (fe_op op_mod modM_ok (fe_op op_fdivW fdivM_ok (fe_v 0) (fe_c pe_int)) (fe_c pe_int))) fa_nil))))))), gF, F.kp, B⟩
abbrev s__law_ones : Stmt := topS 36
theorem sc__law_ones : FnScope ["_law_script", "_law_deck_here", "_law_high", "_law_wide", "_law_kind", "_law_found", "_law_k", "_law_cell", "_law_many", "_law_j", "_law_line", "_law_at", "_law_spot"] ["_law_script", "_law_deck_here"] (defScope s__law_ones) := ⟨rfl, rfl, rfl, by decide +kernel, rfl, by decide +kernel, by decide +kernel⟩
theorem ok__law_ones {P : Program} {w : World} {K : PySem.W.Frag} {mg : Str → Option Value} {base : Heap} {f : Addr} {fd : FuncData} (T : Tf K mg) (F : Fun K "_law_ones" "_law_ones" s__law_ones f fd) (gF : mg "_law_ones" = some (.ref f)) (B : Binds K fd ["_law_script", "_law_deck_here"] []) (D__law_shape : Df P w K mg base "_law_shape" 1 1 r__law_shape) :
    Df P w K mg base "_law_ones" 2 2 r__law_ones :=
  ⟨f, fd, _, fn_ok (k := 1) F sc__law_ones 2 rfl 13 rfl (fun cdv A outer s H E hr tk hp =>
    have nd := (sc__law_ones).nd
    (fss_cons (fs_asg (fe_call' D__law_shape hr (by decide) rfl tk (fa_cons (fe_ix ix_seq ixM_ok (fe_v 1) (fe_c pe_int)) fa_nil)) (fg_sq rfl (fgs_cons (i := 2) nd rfl (Or.inl rfl) (fgs_cons (i := 3) nd rfl (Or.inr rfl) fgs_nil))))
    (fss_cons (fs_set (i := 4) nd rfl (Or.inl rfl) (fe_op op_mod modM_ok (fe_ix ix_seq ixM_ok (fe_v 1) (fe_c pe_int)) (fe_c pe_int)))
    (fss_cons (fs_set (i := 5) nd rfl (Or.inl rfl) (fe_lst fa_nil))
    (fss_cons (fs_for hp rfl [6, 7, 8] (fi_range1 rfl T.b_range (fa_cons (fe_v 2) fa_nil)) (fgi_name (i := 6) nd rfl (Or.inl rfl))
    (fss_cons (fs_set (i := 7) nd rfl (Or.inr rfl) (fe_ix ix_seq ixM_ok (fe_v 1) (fe_op op_addA addM_ok (fe_c pe_int) (fe_v 6))))
    (fss_cons (fs_set (i := 8) nd rfl (Or.inr rfl) (fe_op op_mod modM_ok (fe_v 7) (fe_op op_addA addM_ok (fe_v 3) (fe_c pe_int))))
    (fss_one (fs_if (ft_cmp (op_eqD hr.units) eqM_ok (fe_v 4) (fe_c pe_int))
    (fss_one (fs_expr (fe_bm PySem.F.plainAttrs_list PySem.F.slot_list_append PySem.F.type_list_append mt_append isLs_ok appM_ok (fe_v 5) (fa_cons (fe_lc (own := [("_law_j", 9)]) (is := [9]) rfl nd (fi_range1 rfl T.b_range (fa_cons (fe_v 3) fa_nil)) (blkOk_by (by kernel_rfl)) (fun _ _ _ _ _ => (fgi_name (i := 9) nd rfl (Or.inl rfl))) (fun _ _ _ _ _ => fts_nil) (fun _ _ _ _ _ => (fe_op op_mod modM_ok (fe_op op_fdivW fdivM_ok (fe_op op_fdivW fdivM_ok (fe_v 7) (fe_c pe_int)) (fe_op op_addA addM_ok (fe_c pe_int) (fe_op op_mulA mulM_ok (fe_c pe_int) (fe_v 9)))) (fe_c pe_int)))) fa_nil))))
    (fss_one (fs_expr (fe_bm PySem.F.plainAttrs_list PySem.F.slot_list_append PySem.F.type_list_append mt_append isLs_ok appM_ok (fe_v 5) (fa_cons (fe_lc (own := [("_law_j", 9)]) (is := [9]) rfl nd (fi_range1 rfl T.b_range (fa_cons (fe_v 3) fa_nil)) (blkOk_by (by kernel_rfl)) (fun _ _ _ _ _ => (fgi_name (i := 9) nd rfl (Or.inl rfl))) (fun _ _ _ _ _ => fts_nil) (fun _ _ _ _ _ => (fe_callTy call_int1 intM_ok rfl T.b_int (by decide +kernel) (fa_cons (fe_cmp op_lt ltM_ok (fe_v 9) (fe_v 8)) fa_nil)))) fa_nil)))))))))
    (fss_cons (fs_if (ft_cmp (op_eqD hr.units) eqM_ok (fe_v 4) (fe_c pe_int))
    (fss_one (fs_setLc (i := 5) (own := [("_law_k", 6), ("_law_line", 10)]) (is := [6, 10]) (g := gTup K (List.length [6, 10]) (gCons (gName 6) (gCons (gName 10) gNil))) rfl nd rfl rfl (sw_true rfl rfl rfl (by decide +kernel)) (fi_enum rfl T.b_enumerate (fe_v 5)) (blkOk_by (by kernel_rfl)) (fun _ _ _ _ _ => (fgi_tup (is := [6, 10]) rfl (fgs_cons (i := 6) nd rfl (Or.inl rfl) (fgs_cons (i := 10) nd rfl (Or.inl rfl) fgs_nil)))) (fun _ _ _ _ _ => fts_nil) (fun _ _ _ _ _ => (fe_op op_addA addM_ok (fe_sl (fe_v 10) (fo_some (fe_op op_mod modM_ok (fe_v 6) (fe_v 3))) fo_none) (fe_sl (fe_v 10) fo_none (fo_some (fe_op op_mod modM_ok (fe_v 6) (fe_v 3))))))))
    fss_nil)
    (fss_cons (fs_if (ft_cmp (op_neD hr.units) neM_ok (fe_v 4) (fe_c pe_int))
    (fss_one (fs_for hp rfl [10, 11, 12] (fi_range1 rfl T.b_range (fa_cons (fe_callB call_len lenM_ok rfl T.b_len (by decide +kernel) (fa_cons (fe_v 0) fa_nil)) fa_nil)) (fgi_name (i := 11) nd rfl (Or.inl rfl))
    (fss_cons (fs_set (i := 10) nd rfl (Or.inl rfl) (fe_ix ix_seq ixM_ok (fe_v 5) (fe_op op_mod modM_ok (fe_v 11) (fe_v 2))))
    (fss_cons (fs_set (i := 12) nd rfl (Or.inl rfl) (fe_op op_mod modM_ok (fe_op op_fdivW fdivM_ok (fe_v 11) (fe_v 2)) (fe_v 3)))
    (fss_one (fs_asg (fe_op op_mod modM_ok (fe_op op_addA addM_ok (fe_ix ix_seq ixM_ok (fe_v 10) (fe_v 12)) (fe_op op_fdivW fdivM_ok (fe_ix ix_seq ixM_ok (fe_v 0) (fe_v 11)) (fe_c pe_int))) (fe_c pe_int)) (fg_sub (fe_v 10) (fe_v 12) set_list setL_ok)))))))
    fss_nil)
    (fss_one (fs_ret (fe_v 5)))))))))), gF, F.kp, B⟩
abbrev s__law_sums : Stmt := topS 37
theorem sc__law_sums : FnScope ["_law_table", "_law_columns", "_law_j", "_law_line"] ["_law_table"] (defScope s__law_sums) := ⟨rfl, rfl, rfl, by decide +kernel, rfl, by decide +kernel, by decide +kernel⟩
theorem ok__law_sums {P : Program} {w : World} {K : PySem.W.Frag} {mg : Str → Option Value} {base : Heap} {f : Addr} {fd : FuncData} (T : Tf K mg) (F : Fun K "_law_sums" "_law_sums" s__law_sums f fd) (gF : mg "_law_sums" = some (.ref f)) (B : Binds K fd ["_law_table"] [])  :
    Df P w K mg base "_law_sums" 1 1 r__law_sums :=
  ⟨f, fd, _, fn_ok (k := 0) F sc__law_sums 1 rfl 4 rfl (fun cdv A outer s H E hr tk hp =>
    have nd := (sc__law_sums).nd
    (fss_cons (fs_set (i := 1) nd rfl (Or.inl rfl) (fe_lst fa_nil))
    (fss_cons (fs_for hp rfl [2] (fi_range1 rfl T.b_range (fa_cons (fe_callB call_len lenM_ok rfl T.b_len (by decide +kernel) (fa_cons (fe_ix ix_seq ixM_ok (fe_v 0) (fe_c pe_int)) fa_nil)) fa_nil)) (fgi_name (i := 2) nd rfl (Or.inr rfl))
    (fss_one (fs_expr (fe_bm PySem.F.plainAttrs_list PySem.F.slot_list_append PySem.F.type_list_append mt_append isLs_ok appM_ok (fe_v 1) (fa_cons (fe_callB (cr_sum rfl) sumM_ok rfl T.b_sum (by decide +kernel) (fa_cons (fe_lc (own := [("_law_line", 3)]) (is := [3]) rfl nd (fi_list (fe_v 0)) (blkOk_by (by kernel_rfl)) (fun _ _ _ _ _ => (fgi_name (i := 3) nd rfl (Or.inl rfl))) (fun _ _ _ _ _ => fts_nil) (fun _ _ _ _ _ => (fe_ix ix_seq ixM_ok (fe_v 3) (fe_v 2)))) fa_nil)) fa_nil)))))
    (fss_one (fs_ret (fe_lst (fa_cons (fe_lc (own := [("_law_line", 3)]) (is := [3]) rfl nd (fi_list (fe_v 0)) (blkOk_by (by kernel_rfl)) (fun _ _ _ _ _ => (fgi_name (i := 3) nd rfl (Or.inl rfl))) (fun _ _ _ _ _ => fts_nil) (fun _ _ _ _ _ => (fe_callB (cr_sum rfl) sumM_ok rfl T.b_sum (by decide +kernel) (fa_cons (fe_v 3) fa_nil)))) (fa_cons (fe_v 1) fa_nil)))))))), gF, F.kp, B⟩
abbrev s__law_rising : Stmt := topS 38
theorem sc__law_rising : FnScope ["_law_some", "_law_many", "_law_k"] ["_law_some", "_law_many"] (defScope s__law_rising) := ⟨rfl, rfl, rfl, by decide +kernel, rfl, by decide +kernel, by decide +kernel⟩
theorem ok__law_rising {P : Program} {w : World} {K : PySem.W.Frag} {mg : Str → Option Value} {base : Heap} {f : Addr} {fd : FuncData} (T : Tf K mg) (F : Fun K "_law_rising" "_law_rising" s__law_rising f fd) (gF : mg "_law_rising" = some (.ref f)) (B : Binds K fd ["_law_some", "_law_many"] []) (D__law_whole : Df P w K mg base "_law_whole" 1 1 r__law_whole) :
    Df P w K mg base "_law_rising" 2 2 r__law_rising :=
  ⟨f, fd, _, fn_ok (k := 1) F sc__law_rising 2 rfl 3 rfl (fun cdv A outer s H E hr tk hp =>
    have nd := (sc__law_rising).nd
    (fss_cons (fs_if (ft_not (ft_v (fe_callB call_isi isiM_ok rfl T.b_isinstance (by decide +kernel) (fa_cons (fe_v 0) (fa_cons (fe_c (pe_bltn (v := .ty "list") rfl T.b_list (by decide +kernel) rfl)) fa_nil)))))
    (fss_one (fs_ret (fe_c pe_bl)))
    fss_nil)
    (fss_cons (fs_for hp rfl [2] (fi_range1 rfl T.b_range (fa_cons (fe_callB call_len lenM_ok rfl T.b_len (by decide +kernel) (fa_cons (fe_v 0) fa_nil)) fa_nil)) (fgi_name (i := 2) nd rfl (Or.inl rfl))
    (fss_one (fs_if (FW.ft (fw_or (ft_not (ft_v (fe_call' D__law_whole hr (by decide) rfl tk (fa_cons (fe_ix ix_seq ixM_ok (fe_v 0) (fe_v 2)) fa_nil)))) (fw_or (ft_not (ft_chain op_le leM_ok op_lt ltM_ok (fe_c pe_int) (fe_ix ix_seq ixM_ok (fe_v 0) (fe_v 2)) (fe_v 1))) (fw_or1 (FW.ft (fw_and (ft_cmp op_gt gtM_ok (fe_v 2) (fe_c pe_int)) (fw_and1 (ft_cmp op_ge geM_ok (fe_ix ix_seq ixM_ok (fe_v 0) (fe_op op_sub subM_ok (fe_v 2) (fe_c pe_int))) (fe_ix ix_seq ixM_ok (fe_v 0) (fe_v 2))))))))))
    (fss_one (fs_ret (fe_c pe_bl)))
    fss_nil)))
    (fss_one (fs_ret (fe_c pe_bl)))))), gF, F.kp, B⟩
abbrev s__law_bars : Stmt := topS 39
theorem sc__law_bars : FnScope ["_law_some", "_law_others", "_law_rows", "_law_columns", "_law_low", "_law_high", "_law_room", "_law_j", "_law_k"] ["_law_some", "_law_others", "_law_rows", "_law_columns", "_law_low", "_law_high"] (defScope s__law_bars) := ⟨rfl, rfl, rfl, by decide +kernel, rfl, by decide +kernel, by decide +kernel⟩
theorem ok__law_bars {P : Program} {w : World} {K : PySem.W.Frag} {mg : Str → Option Value} {base : Heap} {f : Addr} {fd : FuncData} (T : Tf K mg) (F : Fun K "_law_bars" "_law_bars" s__law_bars f fd) (gF : mg "_law_bars" = some (.ref f)) (B : Binds K fd ["_law_some", "_law_others", "_law_rows", "_law_columns", "_law_low", "_law_high"] []) (D__law_rising : Df P w K mg base "_law_rising" 2 2 r__law_rising) :
    Df P w K mg base "_law_bars" 3 6 r__law_bars :=
  ⟨f, fd, _, fn_ok (k := 2) F sc__law_bars 6 rfl 9 rfl (fun cdv A outer s H E hr tk hp =>
    have nd := (sc__law_bars).nd
    (fss_cons (fs_if (FW.ft (fw_or (ft_not (ft_v (fe_call' D__law_rising hr (by decide) rfl tk (fa_cons (fe_v 0) (fa_cons (fe_callB call_len lenM_ok rfl T.b_len (by decide +kernel) (fa_cons (fe_v 2) fa_nil)) fa_nil))))) (fw_or1 (ft_not (ft_v (fe_call' D__law_rising hr (by decide) rfl tk (fa_cons (fe_v 1) (fa_cons (fe_callB call_len lenM_ok rfl T.b_len (by decide +kernel) (fa_cons (fe_v 3) fa_nil)) fa_nil))))))))
    (fss_one (fs_ret (fe_c pe_bl)))
    fss_nil)
    (fss_cons (fs_set (i := 6) nd rfl (Or.inl rfl) (fe_callB (cr_sum rfl) sumM_ok rfl T.b_sum (by decide +kernel) (fa_cons (fe_lc (own := [("_law_j", 7)]) (is := [7]) rfl nd (fi_list (fe_v 1)) (blkOk_by (by kernel_rfl)) (fun _ _ _ _ _ => (fgi_name (i := 7) nd rfl (Or.inl rfl))) (fun _ _ _ _ _ => fts_nil) (fun _ _ _ _ _ => (fe_ix ix_seq ixM_ok (fe_v 3) (fe_v 7)))) fa_nil)))
    (fss_cons (fs_for hp rfl [7, 8] (fi_range1 rfl T.b_range (fa_cons (fe_callB call_len lenM_ok rfl T.b_len (by decide +kernel) (fa_cons (fe_v 2) fa_nil)) fa_nil)) (fgi_name (i := 8) nd rfl (Or.inl rfl))
    (fss_one (fs_for hp rfl [7] (fi_range1 rfl T.b_range (fa_cons (fe_callB call_len lenM_ok rfl T.b_len (by decide +kernel) (fa_cons (fe_v 3) fa_nil)) fa_nil)) (fgi_name (i := 7) nd rfl (Or.inl rfl))
    (fss_cons (fs_if (FW.ft (fw_and (ft_cmp op_in_seq (inM_ok (neg := false)) (fe_v 8) (fe_v 0)) (fw_and1 (ft_cmp op_notIn_seq (inM_ok (neg := true)) (fe_v 7) (fe_v 1)))))
    (fss_one (fs_set (i := 6) nd rfl (Or.inl rfl) (fe_op op_addA addM_ok (fe_v 6) (fe_ix ix_seq ixM_ok (fe_ix ix_seq ixM_ok (fe_v 5) (fe_v 8)) (fe_v 7)))))
    fss_nil)
    (fss_one (fs_if (FW.ft (fw_and (ft_cmp op_notIn_seq (inM_ok (neg := true)) (fe_v 8) (fe_v 0)) (fw_and1 (ft_cmp op_in_seq (inM_ok (neg := false)) (fe_v 7) (fe_v 1)))))
    (fss_one (fs_set (i := 6) nd rfl (Or.inl rfl) (fe_op op_sub subM_ok (fe_v 6) (fe_ix ix_seq ixM_ok (fe_ix ix_seq ixM_ok (fe_v 4) (fe_v 8)) (fe_v 7)))))
    fss_nil))))))
    (fss_one (fs_ret (fe_cmp op_gt gtM_ok (fe_callB (cr_sum rfl) sumM_ok rfl T.b_sum (by decide +kernel) (fa_cons (fe_lc (own := [("_law_k", 8)]) (is := [8]) rfl nd (fi_list (fe_v 0)) (blkOk_by (by kernel_rfl)) (fun _ _ _ _ _ => (fgi_name (i := 8) nd rfl (Or.inl rfl))) (fun _ _ _ _ _ => fts_nil) (fun _ _ _ _ _ => (fe_ix ix_seq ixM_ok (fe_v 2) (fe_v 8)))) fa_nil)) (fe_v 6)))))))), gF, F.kp, B⟩
abbrev s__law_lies : Stmt := topS 40
theorem sc__law_lies : FnScope ["_law_found", "_law_sums_here", "_law_cell", "_law_due", "_law_line", "_law_number"] ["_law_found", "_law_sums_here", "_law_cell", "_law_due"] (defScope s__law_lies) := ⟨rfl, rfl, rfl, by decide +kernel, rfl, by decide +kernel, by decide +kernel⟩
theorem ok__law_lies {P : Program} {w : World} {K : PySem.W.Frag} {mg : Str → Option Value} {base : Heap} {f : Addr} {fd : FuncData} (T : Tf K mg) (F : Fun K "_law_lies" "_law_lies" s__law_lies f fd) (gF : mg "_law_lies" = some (.ref f)) (B : Binds K fd ["_law_found", "_law_sums_here", "_law_cell", "_law_due"] []) (D__law_sums : Df P w K mg base "_law_sums" 1 1 r__law_sums) (D__law_whole : Df P w K mg base "_law_whole" 1 1 r__law_whole) :
    Df P w K mg base "_law_lies" 2 4 r__law_lies :=
  ⟨f, fd, _, fn_ok (k := 1) F sc__law_lies 4 rfl 6 rfl (fun cdv A outer s H E hr tk hp =>
    have nd := (sc__law_lies).nd
    (fss_cons (fs_if (FW.ft (fw_or (ft_not (ft_v (fe_callB call_isi isiM_ok rfl T.b_isinstance (by decide +kernel) (fa_cons (fe_v 0) (fa_cons (fe_c (pe_bltn (v := .ty "list") rfl T.b_list (by decide +kernel) rfl)) fa_nil))))) (fw_or1 (ft_cmp (op_neD hr.units) neM_ok (fe_callB call_len lenM_ok rfl T.b_len (by decide +kernel) (fa_cons (fe_v 0) fa_nil)) (fe_callB call_len lenM_ok rfl T.b_len (by decide +kernel) (fa_cons (fe_ix ix_seq ixM_ok (fe_v 1) (fe_c pe_int)) fa_nil))))))
    (fss_one (fs_ret (fe_c pe_bl)))
    fss_nil)
    (fss_cons (fs_for hp rfl [4, 5] (fi_list (fe_v 0)) (fgi_name (i := 4) nd rfl (Or.inl rfl))
    (fss_cons (fs_if (FW.ft (fw_or (ft_not (ft_v (fe_callB call_isi isiM_ok rfl T.b_isinstance (by decide +kernel) (fa_cons (fe_v 4) (fa_cons (fe_c (pe_bltn (v := .ty "list") rfl T.b_list (by decide +kernel) rfl)) fa_nil))))) (fw_or1 (ft_cmp (op_neD hr.units) neM_ok (fe_callB call_len lenM_ok rfl T.b_len (by decide +kernel) (fa_cons (fe_v 4) fa_nil)) (fe_callB call_len lenM_ok rfl T.b_len (by decide +kernel) (fa_cons (fe_ix ix_seq ixM_ok (fe_v 1) (fe_c pe_int)) fa_nil))))))
    (fss_one (fs_ret (fe_c pe_bl)))
    fss_nil)
    (fss_one (fs_for hp rfl [5] (fi_list (fe_v 4)) (fgi_name (i := 5) nd rfl (Or.inl rfl))
    (fss_one (fs_if (FW.ft (fw_or (ft_not (ft_v (fe_call' D__law_whole hr (by decide) rfl tk (fa_cons (fe_v 5) fa_nil)))) (fw_or1 (ft_cmp op_notIn_seq (inM_ok (neg := true)) (fe_v 5) (fe_lst (fa_cons (fe_c pe_int) (fa_cons (fe_c pe_int) fa_nil)))))))
    (fss_one (fs_ret (fe_c pe_bl)))
    fss_nil))))))
    (fss_one (fs_ret (fe_and (fe_cmp (op_eqD hr.units) eqM_ok (fe_call' D__law_sums hr (by decide) rfl tk (fa_cons (fe_v 0) fa_nil)) (fe_v 1)) (fe_one (fe_cmp (op_eqD hr.units) eqM_ok (fe_ix ix_seq ixM_ok (fe_ix ix_seq ixM_ok (fe_v 0) (fe_ix ix_seq ixM_ok (fe_v 2) (fe_c pe_int))) (fe_ix ix_seq ixM_ok (fe_v 2) (fe_c pe_int))) (fe_v 3))))))))), gF, F.kp, B⟩
abbrev s__law_frame : Stmt := topS 41
theorem sc__law_frame : FnScope ["_law_sums_here", "_law_number", "_law_cell", "_law_other", "_law_found", "_law_j", "_law_k"] ["_law_sums_here", "_law_number", "_law_cell", "_law_other"] (defScope s__law_frame) := ⟨rfl, rfl, rfl, by decide +kernel, rfl, by decide +kernel, by decide +kernel⟩
theorem ok__law_frame {P : Program} {w : World} {K : PySem.W.Frag} {mg : Str → Option Value} {base : Heap} {f : Addr} {fd : FuncData} (T : Tf K mg) (F : Fun K "_law_frame" "_law_frame" s__law_frame f fd) (gF : mg "_law_frame" = some (.ref f)) (B : Binds K fd ["_law_sums_here", "_law_number", "_law_cell", "_law_other"] [])  :
    Df P w K mg base "_law_frame" 1 4 r__law_frame :=
  ⟨f, fd, _, fn_ok (k := 0) F sc__law_frame 4 rfl 7 rfl (fun cdv A outer s H E hr tk hp =>
    have nd := (sc__law_frame).nd
    (fss_cons (fs_setLc (i := 4) (own := [("_law_k", 6)]) (is := [6]) rfl nd rfl rfl (sw_true rfl rfl rfl (by decide +kernel)) (fi_list (fe_ix ix_seq ixM_ok (fe_v 0) (fe_c pe_int))) (blkOk_by (by kernel_rfl)) (fun _ _ _ _ _ => (fgi_name (i := 6) nd rfl (Or.inl rfl))) (fun _ _ _ _ _ => fts_nil) (fun _ _ _ _ _ => (fe_lc (own := [("_law_j", 5)]) (is := [5]) rfl nd (fi_list (fe_ix ix_seq ixM_ok (fe_v 0) (fe_c pe_int))) (blkOk_by (by kernel_rfl)) (fun _ _ _ _ _ => (fgi_name (i := 5) nd rfl (Or.inl rfl))) (fun _ _ _ _ _ => fts_nil) (fun _ _ _ _ _ => (fe_v 1)))))
    (fss_cons (fs_asg (fe_v 3) (fg_sub (fe_ix ix_seq ixM_ok (fe_v 4) (fe_ix ix_seq ixM_ok (fe_v 2) (fe_c pe_int))) (fe_ix ix_seq ixM_ok (fe_v 2) (fe_c pe_int)) set_list setL_ok))
    (fss_one (fs_ret (fe_v 4)))))), gF, F.kp, B⟩
abbrev s__law_right : Stmt := topS 42
theorem sc__law_right : FnScope ["_law_found", "_law_sums_here", "_law_cell", "_law_least", "_law_most", "_law_low"] ["_law_found", "_law_sums_here", "_law_cell"] (defScope s__law_right) := ⟨rfl, rfl, rfl, by decide +kernel, rfl, by decide +kernel, by decide +kernel⟩
theorem ok__law_right {P : Program} {w : World} {K : PySem.W.Frag} {mg : Str → Option Value} {base : Heap} {f : Addr} {fd : FuncData} (T : Tf K mg) (F : Fun K "_law_right" "_law_right" s__law_right f fd) (gF : mg "_law_right" = some (.ref f)) (B : Binds K fd ["_law_found", "_law_sums_here", "_law_cell"] []) (D__law_frame : Df P w K mg base "_law_frame" 1 4 r__law_frame) (D__law_bars : Df P w K mg base "_law_bars" 3 6 r__law_bars) (D__law_lies : Df P w K mg base "_law_lies" 2 4 r__law_lies) :
    Df P w K mg base "_law_right" 4 3 r__law_right :=
  ⟨f, fd, _, fn_ok (k := 3) F sc__law_right 3 rfl 6 rfl (fun cdv A outer s H E hr tk hp =>
    have nd := (sc__law_right).nd
    (fss_cons (fs_if (FW.ft (fw_or (ft_not (ft_v (fe_callB call_isi isiM_ok rfl T.b_isinstance (by decide +kernel) (fa_cons (fe_v 0) (fa_cons (fe_c (pe_bltn (v := .ty "tuple") rfl T.b_tuple (by decide +kernel) rfl)) fa_nil))))) (fw_or1 (ft_cmp (op_neD hr.units) neM_ok (fe_callB call_len lenM_ok rfl T.b_len (by decide +kernel) (fa_cons (fe_v 0) fa_nil)) (fe_c pe_int)))))
    (fss_one (fs_ret (fe_c pe_bl)))
    fss_nil)
    (fss_cons (fs_if (ft_cmp (op_eqD hr.units) eqM_ok (fe_ix ix_seq ixM_ok (fe_v 0) (fe_c pe_int)) (fe_c pe_str))
    (fss_one (fs_ret (fe_and (fe_call' D__law_lies hr (by decide) rfl tk (fa_cons (fe_ix ix_seq ixM_ok (fe_v 0) (fe_c pe_int)) (fa_cons (fe_v 1) (fa_cons (fe_v 2) (fa_cons (fe_c pe_int) fa_nil))))) (fe_one (fe_call' D__law_lies hr (by decide) rfl tk (fa_cons (fe_ix ix_seq ixM_ok (fe_v 0) (fe_c pe_int)) (fa_cons (fe_v 1) (fa_cons (fe_v 2) (fa_cons (fe_c pe_int) fa_nil)))))))))
    fss_nil)
    (fss_cons (fs_set (i := 3) nd rfl (Or.inl rfl) (fe_c pe_int))
    (fss_cons (fs_set (i := 4) nd rfl (Or.inl rfl) (fe_c pe_int))
    (fss_cons (fs_if (ft_cmp (op_eqD hr.units) eqM_ok (fe_ix ix_seq ixM_ok (fe_v 0) (fe_c pe_int)) (fe_c pe_str))
    (fss_cons (fs_set (i := 3) nd rfl (Or.inl rfl) (fe_c pe_int))
    (fss_one (fs_set (i := 4) nd rfl (Or.inl rfl) (fe_c pe_int))))
    (fss_one (fs_if (ft_cmp (op_neD hr.units) neM_ok (fe_ix ix_seq ixM_ok (fe_v 0) (fe_c pe_int)) (fe_c pe_str))
    (fss_one (fs_ret (fe_c pe_bl)))
    fss_nil)))
    (fss_cons (fs_set (i := 5) nd rfl (Or.inl rfl) (fe_call' D__law_frame hr (by decide) rfl tk (fa_cons (fe_v 1) (fa_cons (fe_c pe_int) (fa_cons (fe_v 2) (fa_cons (fe_v 3) fa_nil))))))
    (fss_one (fs_ret (fe_call' D__law_bars hr (by decide) rfl tk (fa_cons (fe_ix ix_seq ixM_ok (fe_v 0) (fe_c pe_int)) (fa_cons (fe_ix ix_seq ixM_ok (fe_v 0) (fe_c pe_int)) (fa_cons (fe_ix ix_seq ixM_ok (fe_v 1) (fe_c pe_int)) (fa_cons (fe_ix ix_seq ixM_ok (fe_v 1) (fe_c pe_int)) (fa_cons (fe_v 5) (fa_cons (fe_call' D__law_frame hr (by decide) rfl tk (fa_cons (fe_v 1) (fa_cons (fe_c pe_int) (fa_cons (fe_v 2) (fa_cons (fe_v 4) fa_nil))))) fa_nil)))))))))))))))), gF, F.kp, B⟩
abbrev s__law_other_class : Stmt := topS 44
theorem sc__law_other_class : FnScope ["_law_error"] ["_law_error"] (defScope s__law_other_class) := ⟨rfl, rfl, rfl, by decide +kernel, rfl, by decide +kernel, by decide +kernel⟩
theorem ok__law_other_class {P : Program} {w : World} {K : PySem.W.Frag} {mg : Str → Option Value} {base : Heap} {f : Addr} {fd : FuncData} (T : Tf K mg) (F : Fun K "_law_other_class" "_law_other_class" s__law_other_class f fd) (gF : mg "_law_other_class" = some (.ref f)) (B : Binds K fd ["_law_error"] []) :
    DfX P w K mg base "_law_other_class" 1 "_law_error" ["NoBounds", "NoPlace", "NoSums"] (fun c => if fAny ["NoTable", "NoBottom", "NotAlike", "NoStep", "NoMix", "NotEven"] c = true then true else fAny ["NoSwap", "NoBounds", "TooGreat", "NoNumber", "NoText"] c) :=
  ⟨f, fd, fnx_ok (k := 0) (g := fAny ["NoTable", "NoBottom", "NotAlike", "NoStep", "NoMix", "NotEven"]) (g2 := fun c => fAny ["NoSwap", "NoBounds", "TooGreat", "NoNumber", "NoText"] c) F sc__law_other_class rfl (fun cdv A outer s H p => ⟨(fxb_isT List.mem_cons_self T.e_R rfl (Or.inl rfl) rfl T.b_isinstance (by decide +kernel) (.cons T.i_NoTable rfl (.cons T.i_NoBottom rfl (.cons T.i_NotAlike rfl (.cons T.i_NoStep rfl (.cons T.i_NoMix rfl (.cons T.i_NotEven rfl .nil)))))) (by decide)), (fxb_isT List.mem_cons_self T.e_R rfl (Or.inl rfl) rfl T.b_isinstance (by decide +kernel) (.cons T.i_NoSwap rfl (.cons T.i_NoBounds rfl (.cons T.i_TooGreat rfl (.cons T.i_NoNumber rfl (.cons T.i_NoText rfl .nil))))) (by decide)), fun _ => rfl⟩), gF, F.kp, B⟩
abbrev s__law_seen : Stmt := topS 43
theorem sc__law_seen : FnScope ["_law_sums_here", "_law_cell", "_law_got", "_law_error"] ["_law_sums_here", "_law_cell"] (defScope s__law_seen) := ⟨rfl, rfl, rfl, by decide +kernel, rfl, by decide +kernel, by decide +kernel⟩
theorem ok__law_seen {P : Program} {w : World} {K : PySem.W.Frag} {mg : Str → Option Value} {base : Heap} {f : Addr} {fd : FuncData} (T : Tf K mg) (F : Fun K "_law_seen" "_law_seen" s__law_seen f fd) (gF : mg "_law_seen" = some (.ref f)) (B : Binds K fd ["_law_sums_here", "_law_cell"] []) (D_fate_of : Df P w K mg base "fate_of" 5 3 r_fate_of) (D__law_other_class : DfX P w K mg base "_law_other_class" 1 "_law_error" ["NoBounds", "NoPlace", "NoSums"] (fun c => if fAny ["NoTable", "NoBottom", "NotAlike", "NoStep", "NoMix", "NotEven"] c = true then true else fAny ["NoSwap", "NoBounds", "TooGreat", "NoNumber", "NoText"] c)) :
    Df P w K mg base "_law_seen" 6 2 r__law_seen :=
  ⟨f, fd, _, fn_ok (k := 5) F sc__law_seen 2 rfl 4 rfl (fun cdv A outer s H E hr tk hp =>
    have nd := (sc__law_seen).nd
    (fss_cons (fs_set (i := 2) nd rfl (Or.inl rfl) (fe_c pe_int))
    (fss_cons (fs_tryM rfl rfl nd tk (fun _ _ _ tk hp => (fss_one (fs_expr (fe_call' D_fate_of hr (by decide) rfl tk (fa_cons (fe_ix ix_seq ixM_ok (fe_v 0) (fe_c pe_int)) (fa_cons (fe_ix ix_seq ixM_ok (fe_v 0) (fe_c pe_int)) (fa_cons (fe_v 1) fa_nil)))))))
    (.nm (i := 3) rfl rfl rfl T.h_NoPlace (fus_cons (fu_addmul (j := 2) (fub_or (fub_is1 T.e_R T.i_NoSums rfl (by first | exact Or.inl rfl | exact Or.inr (Or.inl rfl) | exact Or.inr (Or.inr rfl)) rfl T.b_isinstance (by decide +kernel) rfl) (fub_call' D__law_other_class hr (by decide) rfl (by first | exact Or.inl rfl | exact Or.inr (Or.inl rfl) | exact Or.inr (Or.inr rfl)) rfl)) nd rfl (Or.inl rfl) (by decide) rfl T.b_int (by decide +kernel))
    fus_nil) (.nm (i := 3) rfl rfl rfl T.h_NoSums (fus_cons (fu_addmul (j := 2) (fub_or (fub_is1 T.e_R T.i_NoPlace rfl (by first | exact Or.inl rfl | exact Or.inr (Or.inl rfl) | exact Or.inr (Or.inr rfl)) rfl T.b_isinstance (by decide +kernel) rfl) (fub_call' D__law_other_class hr (by decide) rfl (by first | exact Or.inl rfl | exact Or.inr (Or.inl rfl) | exact Or.inr (Or.inr rfl)) rfl)) nd rfl (Or.inl rfl) (by decide) rfl T.b_int (by decide +kernel))
    fus_nil) (.pl rfl T.h_MixError (fun _ _ _ => (fss_one (fs_set (i := 2) nd rfl (Or.inl rfl) (fe_c pe_int)))) .nil))))
    (fss_one (fs_ret (fe_v 2)))))), gF, F.kp, B⟩
abbrev s__law_caught : Stmt := topS 45
theorem sc__law_caught : FnScope ["_law_sums_here", "_law_cell", "_law_error"] ["_law_sums_here", "_law_cell"] (defScope s__law_caught) := ⟨rfl, rfl, rfl, by decide +kernel, rfl, by decide +kernel, by decide +kernel⟩
theorem ok__law_caught {P : Program} {w : World} {K : PySem.W.Frag} {mg : Str → Option Value} {base : Heap} {f : Addr} {fd : FuncData} (T : Tf K mg) (F : Fun K "_law_caught" "_law_caught" s__law_caught f fd) (gF : mg "_law_caught" = some (.ref f)) (B : Binds K fd ["_law_sums_here", "_law_cell"] []) (D_fate_of : Df P w K mg base "fate_of" 5 3 r_fate_of) :
    Df P w K mg base "_law_caught" 6 2 r__law_caught :=
  ⟨f, fd, _, fn_ok (k := 5) F sc__law_caught 2 rfl 3 rfl (fun cdv A outer s H E hr tk hp =>
    have nd := (sc__law_caught).nd
    (fss_cons (fs_tryR (i := 2) rfl rfl nd rfl rfl rfl tk T.h_MixError (fun _ _ _ tk hp => (fss_one (fs_expr (fe_call' D_fate_of hr (by decide) rfl tk (fa_cons (fe_ix ix_seq ixM_ok (fe_v 0) (fe_c pe_int)) (fa_cons (fe_ix ix_seq ixM_ok (fe_v 0) (fe_c pe_int)) (fa_cons (fe_v 1) fa_nil)))))))
    (fub_isV T.e_R T.v_R rfl (by first | exact Or.inl rfl | exact Or.inr (Or.inl rfl) | exact Or.inr (Or.inr rfl)) rfl T.b_isinstance (by decide +kernel) rfl T.b_ValueError (by decide +kernel)))
    (fss_one (fs_ret (fe_c pe_bl))))), gF, F.kp, B⟩
abbrev s__law_spoiled : Stmt := topS 46
theorem sc__law_spoiled : FnScope ["_law_sums_here", "_law_cell", "_law_rows", "_law_columns", "_law_at", "_law_spot"] ["_law_sums_here", "_law_cell"] (defScope s__law_spoiled) := ⟨rfl, rfl, rfl, by decide +kernel, rfl, by decide +kernel, by decide +kernel⟩
theorem ok__law_spoiled {P : Program} {w : World} {K : PySem.W.Frag} {mg : Str → Option Value} {base : Heap} {f : Addr} {fd : FuncData} (T : Tf K mg) (F : Fun K "_law_spoiled" "_law_spoiled" s__law_spoiled f fd) (gF : mg "_law_spoiled" = some (.ref f)) (B : Binds K fd ["_law_sums_here", "_law_cell"] [])  :
    Df P w K mg base "_law_spoiled" 1 2 r__law_spoiled :=
  ⟨f, fd, _, fn_ok (k := 0) F sc__law_spoiled 2 rfl 6 rfl (fun cdv A outer s H E hr tk hp =>
    have nd := (sc__law_spoiled).nd
    (fss_cons (fs_set (i := 2) nd rfl (Or.inl rfl) (fe_callTy call_list_of listM_ok rfl T.b_list (by decide +kernel) (fa_cons (fe_ix ix_seq ixM_ok (fe_v 0) (fe_c pe_int)) fa_nil)))
    (fss_cons (fs_set (i := 3) nd rfl (Or.inl rfl) (fe_callTy call_list_of listM_ok rfl T.b_list (by decide +kernel) (fa_cons (fe_ix ix_seq ixM_ok (fe_v 0) (fe_c pe_int)) fa_nil)))
    (fss_cons (fs_set (i := 4) nd rfl (Or.inl rfl) (fe_op op_mod modM_ok (fe_op op_fdivW fdivM_ok (fe_v 1) (fe_c pe_int)) (fe_callB call_len lenM_ok rfl T.b_len (by decide +kernel) (fa_cons (fe_v 2) fa_nil))))
    (fss_cons (fs_if (ft_cmp (op_eqD hr.units) eqM_ok (fe_op op_mod modM_ok (fe_v 1) (fe_c pe_int)) (fe_c pe_int))
    (fss_one (fs_asg (fe_op op_addA addM_ok (fe_ix ix_seq ixM_ok (fe_v 2) (fe_v 4)) (fe_c pe_int)) (fg_sub (fe_v 2) (fe_v 4) set_list setL_ok)))
    (fss_cons (fs_set (i := 5) nd rfl (Or.inl rfl) (fe_op op_mod modM_ok (fe_op op_fdivW fdivM_ok (fe_v 1) (fe_c pe_int)) (fe_callB call_len lenM_ok rfl T.b_len (by decide +kernel) (fa_cons (fe_v 3) fa_nil))))
    (fss_cons (fs_asg (fe_op op_sub subM_ok (fe_op op_addA addM_ok (fe_op op_addA addM_ok (fe_ix ix_seq ixM_ok (fe_v 3) (fe_v 5)) (fe_callB call_len lenM_ok rfl T.b_len (by decide +kernel) (fa_cons (fe_v 3) fa_nil))) (fe_c pe_int)) (fe_ix ix_seq ixM_ok (fe_v 2) (fe_v 4))) (fg_sub (fe_v 3) (fe_v 5) set_list setL_ok))
    (fss_one (fs_asg (fe_op op_addA addM_ok (fe_callB call_len lenM_ok rfl T.b_len (by decide +kernel) (fa_cons (fe_v 3) fa_nil)) (fe_c pe_int)) (fg_sub (fe_v 2) (fe_v 4) set_list setL_ok))))))
    (fss_one (fs_ret (fe_lst (fa_cons (fe_v 2) (fa_cons (fe_v 3) fa_nil)))))))))), gF, F.kp, B⟩
abbrev s__law_odd : Stmt := topS 47
theorem sc__law_odd : FnScope ["_law_sums_here", "_law_cell", "_law_high", "_law_wide", "_law_row"] ["_law_sums_here", "_law_cell"] (defScope s__law_odd) := ⟨rfl, rfl, rfl, by decide +kernel, rfl, by decide +kernel, by decide +kernel⟩
theorem ok__law_odd {P : Program} {w : World} {K : PySem.W.Frag} {mg : Str → Option Value} {base : Heap} {f : Addr} {fd : FuncData} (T : Tf K mg) (F : Fun K "_law_odd" "_law_odd" s__law_odd f fd) (gF : mg "_law_odd" = some (.ref f)) (B : Binds K fd ["_law_sums_here", "_law_cell"] [])  :
    Df P w K mg base "_law_odd" 1 2 r__law_odd :=
  ⟨f, fd, _, fn_ok (k := 0) F sc__law_odd 2 rfl 5 rfl (fun cdv A outer s H E hr tk hp =>
    have nd := (sc__law_odd).nd
    (fss_cons (fs_set (i := 2) nd rfl (Or.inl rfl) (fe_callB call_len lenM_ok rfl T.b_len (by decide +kernel) (fa_cons (fe_ix ix_seq ixM_ok (fe_v 0) (fe_c pe_int)) fa_nil)))
    (fss_cons (fs_set (i := 3) nd rfl (Or.inl rfl) (fe_callB call_len lenM_ok rfl T.b_len (by decide +kernel) (fa_cons (fe_ix ix_seq ixM_ok (fe_v 0) (fe_c pe_int)) fa_nil)))
    (fss_cons (fs_set (i := 4) nd rfl (Or.inl rfl) (fe_ix ix_seq ixM_ok (fe_lst (fa_cons (fe_op op_mod modM_ok (fe_op op_fdivW fdivM_ok (fe_v 1) (fe_c pe_int)) (fe_v 2)) (fa_cons (fe_un un_neg negM_ok (fe_c pe_int)) (fa_cons (fe_op op_sub subM_ok (fe_c pe_int) (fe_v 2)) (fa_cons (fe_v 2) (fa_cons (fe_op op_pow powM_ok (fe_c pe_int) (fe_c pe_int)) (fa_cons (fe_op op_sub subM_ok (fe_c pe_int) (fe_op op_pow powM_ok (fe_c pe_int) (fe_c pe_int))) fa_nil))))))) (fe_op op_mod modM_ok (fe_v 1) (fe_c pe_int))))
    (fss_cons (fs_if (ft_cmp op_gt gtM_ok (fe_op op_mod modM_ok (fe_v 1) (fe_c pe_int)) (fe_c pe_int))
    (fss_one (fs_ret (fe_tup (fa_cons (fe_v 4) (fa_cons (fe_op op_mod modM_ok (fe_op op_fdivW fdivM_ok (fe_v 1) (fe_c pe_int)) (fe_v 3)) fa_nil)))))
    fss_nil)
    (fss_one (fs_ret (fe_tup (fa_cons (fe_v 4) (fa_cons (fe_ix ix_seq ixM_ok (fe_lst (fa_cons (fe_un un_neg negM_ok (fe_c pe_int)) (fa_cons (fe_v 3) (fa_cons (fe_op op_sub subM_ok (fe_c pe_int) (fe_v 3)) (fa_cons (fe_op op_addA addM_ok (fe_v 3) (fe_c pe_int)) fa_nil))))) (fe_op op_mod modM_ok (fe_op op_fdivW fdivM_ok (fe_v 1) (fe_c pe_int)) (fe_c pe_int))) fa_nil)))))))))), gF, F.kp, B⟩
abbrev s__law_apart : Stmt := topS 48
theorem sc__law_apart : FnScope ["_law_one", "_law_other", "_law_held", "_law_line"] ["_law_one", "_law_other"] (defScope s__law_apart) := ⟨rfl, rfl, rfl, by decide +kernel, rfl, by decide +kernel, by decide +kernel⟩
theorem ok__law_apart {P : Program} {w : World} {K : PySem.W.Frag} {mg : Str → Option Value} {base : Heap} {f : Addr} {fd : FuncData} (T : Tf K mg) (F : Fun K "_law_apart" "_law_apart" s__law_apart f fd) (gF : mg "_law_apart" = some (.ref f)) (B : Binds K fd ["_law_one", "_law_other"] [])  :
    Df P w K mg base "_law_apart" 1 2 r__law_apart :=
  ⟨f, fd, _, fn_ok (k := 0) F sc__law_apart 2 rfl 4 rfl (fun cdv A outer s H E hr tk hp =>
    have nd := (sc__law_apart).nd
    (fss_cons (fs_setLc (i := 2) (own := [("_law_line", 3)]) (is := [3]) rfl nd rfl rfl (sw_true rfl rfl rfl (by decide +kernel)) (fi_list (fe_v 1)) (blkOk_by (by kernel_rfl)) (fun _ _ _ _ _ => (fgi_name (i := 3) nd rfl (Or.inl rfl))) (fun _ _ _ _ _ => fts_nil) (fun _ _ _ _ _ => (fe_callTy call_list_of listM_ok rfl T.b_list (by decide +kernel) (fa_cons (fe_v 3) fa_nil))))
    (fss_cons (fs_for hp rfl [3] (fi_list (fe_v 0)) (fgi_name (i := 3) nd rfl (Or.inl rfl))
    (fss_one (fs_expr (fe_bm0 PySem.F.plainAttrs_list PySem.F.slot_list_clear PySem.F.type_list_clear mt_clear isLs_ok clearM_ok (fe_v 3)))))
    (fss_cons (fs_if (ft_cmp (op_neD hr.units) neM_ok (fe_v 1) (fe_v 2))
    (fss_one (fs_ret (fe_c pe_bl)))
    fss_nil)
    (fss_cons (fs_for hp rfl [3] (fi_list (fe_v 1)) (fgi_name (i := 3) nd rfl (Or.inl rfl))
    (fss_one (fs_expr (fe_bm0 PySem.F.plainAttrs_list PySem.F.slot_list_clear PySem.F.type_list_clear mt_clear isLs_ok clearM_ok (fe_v 3)))))
    (fss_one (fs_ret (fe_c pe_bl)))))))), gF, F.kp, B⟩
abbrev s__law_refused : Stmt := topS 49
theorem sc__law_refused : FnScope ["_law_sums_here", "_law_cell", "_law_due", "_law_handed"] ["_law_sums_here", "_law_cell", "_law_due"] (defScope s__law_refused) := ⟨rfl, rfl, rfl, by decide +kernel, rfl, by decide +kernel, by decide +kernel⟩
theorem ok__law_refused {P : Program} {w : World} {K : PySem.W.Frag} {mg : Str → Option Value} {base : Heap} {f : Addr} {fd : FuncData} (T : Tf K mg) (F : Fun K "_law_refused" "_law_refused" s__law_refused f fd) (gF : mg "_law_refused" = some (.ref f)) (B : Binds K fd ["_law_sums_here", "_law_cell", "_law_due"] []) (D__law_caught : Df P w K mg base "_law_caught" 6 2 r__law_caught) (D__law_seen : Df P w K mg base "_law_seen" 6 2 r__law_seen) :
    Df P w K mg base "_law_refused" 7 3 r__law_refused :=
  ⟨f, fd, _, fn_ok (k := 6) F sc__law_refused 3 rfl 4 rfl (fun cdv A outer s H E hr tk hp =>
    have nd := (sc__law_refused).nd
    (fss_cons (fs_set (i := 3) nd rfl (Or.inl rfl) (fe_lst (fa_cons (fe_callTy call_list_of listM_ok rfl T.b_list (by decide +kernel) (fa_cons (fe_ix ix_seq ixM_ok (fe_v 0) (fe_c pe_int)) fa_nil)) (fa_cons (fe_callTy call_list_of listM_ok rfl T.b_list (by decide +kernel) (fa_cons (fe_ix ix_seq ixM_ok (fe_v 0) (fe_c pe_int)) fa_nil)) fa_nil))))
    (fss_one (fs_ret (fe_and (fe_cmp (op_eqD hr.units) eqM_ok (fe_call' D__law_seen hr (by decide) rfl tk (fa_cons (fe_v 3) (fa_cons (fe_v 1) fa_nil))) (fe_v 2)) (fe_and (fe_call' D__law_caught hr (by decide) rfl tk (fa_cons (fe_v 3) (fa_cons (fe_v 1) fa_nil))) (fe_one (fe_cmp (op_eqD hr.units) eqM_ok (fe_v 3) (fe_v 0))))))))), gF, F.kp, B⟩
abbrev s_law : Stmt := topS 50
theorem sc_law : FnScope ["_law_script", "_law_deck_here", "_law_sums_here", "_law_spoiled_here", "_law_odd_here", "_law_k", "_law_cell", "_law_handed", "_law_found", "_law_kind", "_law_part", "_law_again"] ["_law_script"] (defScope s_law) := ⟨rfl, rfl, rfl, by decide +kernel, rfl, by decide +kernel, by decide +kernel⟩
theorem fn_law {P : Program} {w : World} {K : PySem.W.Frag} {mg : Str → Option Value} {base : Heap} {f : Addr} {fd : FuncData} (T : Tf K mg) (F : Fun K "law" "law" s_law f fd) (D__law_deck : Df P w K mg base "_law_deck" 1 2 r__law_deck) (D__law_sums : Df P w K mg base "_law_sums" 1 1 r__law_sums) (D__law_spoiled : Df P w K mg base "_law_spoiled" 1 2 r__law_spoiled) (D__law_odd : Df P w K mg base "_law_odd" 1 2 r__law_odd) (D__law_ones : Df P w K mg base "_law_ones" 2 2 r__law_ones) (D_fate_of : Df P w K mg base "fate_of" 5 3 r_fate_of) (D__law_refused : Df P w K mg base "_law_refused" 7 3 r__law_refused) (D__law_right : Df P w K mg base "_law_right" 4 3 r__law_right) (D__law_apart : Df P w K mg base "_law_apart" 1 2 r__law_apart) :
    FnOk P w K mg base (L2.CX P w) 8 f fd ["_law_script"] (spM K mg 1 r_law) :=
  fn_ok (k := 7) F sc_law 1 rfl 12 rfl (fun cdv A outer s H E hr tk hp =>
    have nd := (sc_law).nd
    (fss_cons (fs_set (i := 1) nd rfl (Or.inl rfl) (fe_call' D__law_deck hr (by decide) rfl tk (fa_cons (fe_v 0) (fa_cons (fe_c pe_int) fa_nil))))
    (fss_cons (fs_set (i := 2) nd rfl (Or.inl rfl) (fe_call' D__law_sums hr (by decide) rfl tk (fa_cons (fe_call' D__law_ones hr (by decide) rfl tk (fa_cons (fe_v 0) (fa_cons (fe_v 1) fa_nil))) fa_nil)))
    (fss_cons (fs_set (i := 3) nd rfl (Or.inl rfl) (fe_call' D__law_spoiled hr (by decide) rfl tk (fa_cons (fe_v 2) (fa_cons (fe_ix ix_seq ixM_ok (fe_v 1) (fe_c pe_int)) fa_nil))))
    (fss_cons (fs_set (i := 4) nd rfl (Or.inl rfl) (fe_call' D__law_odd hr (by decide) rfl tk (fa_cons (fe_v 2) (fa_cons (fe_ix ix_seq ixM_ok (fe_v 1) (fe_c pe_int)) fa_nil))))
    (fss_cons (fs_if (FW.ft (fw_or (ft_not (ft_v (fe_call' D__law_refused hr (by decide) rfl tk (fa_cons (fe_v 2) (fa_cons (fe_v 4) (fa_cons (fe_c pe_int) fa_nil)))))) (fw_or1 (ft_not (ft_v (fe_call' D__law_refused hr (by decide) rfl tk (fa_cons (fe_v 3) (fa_cons (fe_v 4) (fa_cons (fe_c pe_int) fa_nil)))))))))
    (fss_one (fs_ret (fe_c pe_bl)))
    fss_nil)
    (fss_cons (fs_for hp rfl [5, 6, 7, 8, 9, 10, 11] (fi_range1 rfl T.b_range (fa_cons (fe_c pe_int) fa_nil)) (fgi_name (i := 5) nd rfl (Or.inl rfl))
    (fss_cons (fs_set (i := 6) nd rfl (Or.inl rfl) (fe_tup (fa_cons (fe_op op_mod modM_ok (fe_ix ix_seq ixM_ok (fe_v 1) (fe_op op_addA addM_ok (fe_c pe_int) (fe_v 5))) (fe_callB call_len lenM_ok rfl T.b_len (by decide +kernel) (fa_cons (fe_ix ix_seq ixM_ok (fe_v 2) (fe_c pe_int)) fa_nil))) (fa_cons (fe_op op_mod modM_ok (fe_op op_fdivW fdivM_ok (fe_ix ix_seq ixM_ok (fe_v 1) (fe_op op_addA addM_ok (fe_c pe_int) (fe_v 5))) (fe_c pe_int)) (fe_callB call_len lenM_ok rfl T.b_len (by decide +kernel) (fa_cons (fe_ix ix_seq ixM_ok (fe_v 2) (fe_c pe_int)) fa_nil))) fa_nil))))
    (fss_cons (fs_set (i := 7) nd rfl (Or.inl rfl) (fe_lst (fa_cons (fe_callTy call_list_of listM_ok rfl T.b_list (by decide +kernel) (fa_cons (fe_ix ix_seq ixM_ok (fe_v 2) (fe_c pe_int)) fa_nil)) (fa_cons (fe_callTy call_list_of listM_ok rfl T.b_list (by decide +kernel) (fa_cons (fe_ix ix_seq ixM_ok (fe_v 2) (fe_c pe_int)) fa_nil)) fa_nil))))
    (fss_cons (fs_set (i := 8) nd rfl (Or.inl rfl) (fe_call' D_fate_of hr (by decide) rfl tk (fa_cons (fe_ix ix_seq ixM_ok (fe_v 7) (fe_c pe_int)) (fa_cons (fe_ix ix_seq ixM_ok (fe_v 7) (fe_c pe_int)) (fa_cons (fe_v 6) fa_nil)))))
    (fss_cons (fs_if (FW.ft (fw_or (ft_not (ft_v (fe_call' D__law_right hr (by decide) rfl tk (fa_cons (fe_v 8) (fa_cons (fe_v 2) (fa_cons (fe_v 6) fa_nil)))))) (fw_or (ft_cmp (op_neD hr.units) neM_ok (fe_v 7) (fe_v 2)) (fw_or1 (ft_not (ft_v (fe_call' D__law_refused hr (by decide) rfl tk (fa_cons (fe_v 3) (fa_cons (fe_v 6) (fa_cons (fe_c pe_int) fa_nil))))))))))
    (fss_one (fs_ret (fe_c pe_bl)))
    fss_nil)
    (fss_cons (fs_set (i := 9) nd rfl (Or.inl rfl) (fe_ix ix_seq ixM_ok (fe_v 8) (fe_c pe_int)))
    (fss_cons (fs_if (FW.ft (fw_and (ft_cmp (op_eqD hr.units) eqM_ok (fe_v 9) (fe_c pe_str)) (fw_and1 (ft_not (ft_v (fe_call' D__law_apart hr (by decide) rfl tk (fa_cons (fe_ix ix_seq ixM_ok (fe_v 8) (fe_c pe_int)) (fa_cons (fe_ix ix_seq ixM_ok (fe_v 8) (fe_c pe_int)) fa_nil))))))))
    (fss_one (fs_ret (fe_c pe_bl)))
    fss_nil)
    (fss_cons (fs_for hp rfl [10] (fi_tup (fe_sl (fe_v 8) (fo_some (fe_c pe_int)) fo_none)) (fgi_name (i := 10) nd rfl (Or.inl rfl))
    (fss_one (fs_expr (fe_bm0 PySem.F.plainAttrs_list PySem.F.slot_list_clear PySem.F.type_list_clear mt_clear isLs_ok clearM_ok (fe_v 10)))))
    (fss_cons (fs_set (i := 11) nd rfl (Or.inl rfl) (fe_call' D_fate_of hr (by decide) rfl tk (fa_cons (fe_ix ix_seq ixM_ok (fe_v 2) (fe_c pe_int)) (fa_cons (fe_ix ix_seq ixM_ok (fe_v 2) (fe_c pe_int)) (fa_cons (fe_v 6) fa_nil)))))
    (fss_one (fs_if (FW.ft (fw_or (ft_cmp (op_neD hr.units) neM_ok (fe_ix ix_seq ixM_ok (fe_v 11) (fe_c pe_int)) (fe_v 9)) (fw_or1 (ft_not (ft_v (fe_call' D__law_right hr (by decide) rfl tk (fa_cons (fe_v 11) (fa_cons (fe_v 2) (fa_cons (fe_v 6) fa_nil)))))))))
    (fss_one (fs_ret (fe_c pe_bl)))
    fss_nil)))))))))))
    (fss_one (fs_ret (fe_c pe_bl))))))))))
theorem all_mk {l : PySem.W.OpenLaw} {w : World} {K : PySem.W.Frag} {h : Heap} {mg : Str → Option Value} {fa : Addr} {f_0 : Addr} {od_0 an_0 : Option Addr} {sl_0 : Array (Option Value)} {oc_0 kV_0 dc_0 pm_0 cd_0 ct_0 : Value} {f_1 : Addr} {od_1 an_1 : Option Addr} {sl_1 : Array (Option Value)} {oc_1 kV_1 dc_1 pm_1 cd_1 ct_1 : Value} {f_2 : Addr} {od_2 an_2 : Option Addr} {sl_2 : Array (Option Value)} {oc_2 kV_2 dc_2 pm_2 cd_2 ct_2 : Value} {f_3 : Addr} {od_3 an_3 : Option Addr} {sl_3 : Array (Option Value)} {oc_3 kV_3 dc_3 pm_3 cd_3 ct_3 : Value} {f_4 : Addr} {od_4 an_4 : Option Addr} {sl_4 : Array (Option Value)} {oc_4 kV_4 dc_4 pm_4 cd_4 ct_4 : Value} {f_5 : Addr} {od_5 an_5 : Option Addr} {sl_5 : Array (Option Value)} {oc_5 kV_5 dc_5 pm_5 cd_5 ct_5 : Value} {f_6 : Addr} {od_6 an_6 : Option Addr} {sl_6 : Array (Option Value)} {oc_6 kV_6 dc_6 pm_6 cd_6 ct_6 : Value} {f_7 : Addr} {od_7 an_7 : Option Addr} {sl_7 : Array (Option Value)} {oc_7 kV_7 dc_7 pm_7 cd_7 ct_7 : Value} {f_8 : Addr} {od_8 an_8 : Option Addr} {sl_8 : Array (Option Value)} {oc_8 kV_8 dc_8 pm_8 cd_8 ct_8 : Value} {f_9 : Addr} {od_9 an_9 : Option Addr} {sl_9 : Array (Option Value)} {oc_9 kV_9 dc_9 pm_9 cd_9 ct_9 : Value} {f_10 : Addr} {od_10 an_10 : Option Addr} {sl_10 : Array (Option Value)} {oc_10 kV_10 dc_10 pm_10 cd_10 ct_10 : Value} {f_11 : Addr} {od_11 an_11 : Option Addr} {sl_11 : Array (Option Value)} {oc_11 kV_11 dc_11 pm_11 cd_11 ct_11 : Value} {f_12 : Addr} {od_12 an_12 : Option Addr} {sl_12 : Array (Option Value)} {oc_12 kV_12 dc_12 pm_12 cd_12 ct_12 : Value} {f_13 : Addr} {od_13 an_13 : Option Addr} {sl_13 : Array (Option Value)} {oc_13 kV_13 dc_13 pm_13 cd_13 ct_13 : Value} {f_14 : Addr} {od_14 an_14 : Option Addr} {sl_14 : Array (Option Value)} {oc_14 kV_14 dc_14 pm_14 cd_14 ct_14 : Value} {f_15 : Addr} {od_15 an_15 : Option Addr} {sl_15 : Array (Option Value)} {oc_15 kV_15 dc_15 pm_15 cd_15 ct_15 : Value} {f_16 : Addr} {od_16 an_16 : Option Addr} {sl_16 : Array (Option Value)} {oc_16 kV_16 dc_16 pm_16 cd_16 ct_16 : Value} {f_17 : Addr} {od_17 an_17 : Option Addr} {sl_17 : Array (Option Value)} {oc_17 kV_17 dc_17 pm_17 cd_17 ct_17 : Value} {f_18 : Addr} {od_18 an_18 : Option Addr} {sl_18 : Array (Option Value)} {oc_18 kV_18 dc_18 pm_18 cd_18 ct_18 : Value} {f_19 : Addr} {od_19 an_19 : Option Addr} {sl_19 : Array (Option Value)} {oc_19 kV_19 dc_19 pm_19 cd_19 ct_19 : Value} {f_20 : Addr} {od_20 an_20 : Option Addr} {sl_20 : Array (Option Value)} {oc_20 kV_20 dc_20 pm_20 cd_20 ct_20 : Value} {f_21 : Addr} {od_21 an_21 : Option Addr} {sl_21 : Array (Option Value)} {oc_21 kV_21 dc_21 pm_21 cd_21 ct_21 : Value} {f_22 : Addr} {od_22 an_22 : Option Addr} {sl_22 : Array (Option Value)} {oc_22 kV_22 dc_22 pm_22 cd_22 ct_22 : Value} {f_23 : Addr} {od_23 an_23 : Option Addr} {sl_23 : Array (Option Value)} {oc_23 kV_23 dc_23 pm_23 cd_23 ct_23 : Value} {f_24 : Addr} {od_24 an_24 : Option Addr} {sl_24 : Array (Option Value)} {oc_24 kV_24 dc_24 pm_24 cd_24 ct_24 : Value} {f_25 : Addr} {od_25 an_25 : Option Addr} {sl_25 : Array (Option Value)} {oc_25 kV_25 dc_25 pm_25 cd_25 ct_25 : Value} {f_26 : Addr} {od_26 an_26 : Option Addr} {sl_26 : Array (Option Value)} {oc_26 kV_26 dc_26 pm_26 cd_26 ct_26 : Value} {f_27 : Addr} {od_27 an_27 : Option Addr} {sl_27 : Array (Option Value)} {oc_27 kV_27 dc_27 pm_27 cd_27 ct_27 : Value} {f_28 : Addr} {od_28 an_28 : Option Addr} {sl_28 : Array (Option Value)} {oc_28 kV_28 dc_28 pm_28 cd_28 ct_28 : Value} {f_29 : Addr} {od_29 an_29 : Option Addr} {sl_29 : Array (Option Value)} {oc_29 kV_29 dc_29 pm_29 cd_29 ct_29 : Value} {f_30 : Addr} {od_30 an_30 : Option Addr} {sl_30 : Array (Option Value)} {oc_30 kV_30 dc_30 pm_30 cd_30 ct_30 : Value} {f_31 : Addr} {od_31 an_31 : Option Addr} {sl_31 : Array (Option Value)} {oc_31 kV_31 dc_31 pm_31 cd_31 ct_31 : Value} {C_MixError C_NoTable C_NoBottom C_NotAlike C_NoStep C_NoMix C_NotEven C_NoSwap C_NoBounds C_NoPlace C_NoSums C_TooGreat C_NoNumber C_NoText : Addr} (X : K.In h) (G : h.Ns mainGlobals mg) (hfa : mg "law" = some (.ref fa))
    (a_0 : PySem.W.nsIn K mainGlobals "sums_of_rows" = some (some (.ref f_0))) (l_0 : K.lookup f_0 = some ⟨oc_0, od_0, .func (PySem.W.fnOf "sums_of_rows" "sums_of_rows" (defArgs s_sums_of_rows) (defBody s_sums_of_rows) (defScope s_sums_of_rows) .none kV_0 dc_0 pm_0 an_0 cd_0 ct_0), sl_0⟩) (h_0 : PySem.W.codeIn K cd_0 "sums_of_rows" = true) (k_0 : PySem.W.keepIn K (.ref f_0) = true)
    (a_1 : PySem.W.nsIn K mainGlobals "turned_table" = some (some (.ref f_1))) (l_1 : K.lookup f_1 = some ⟨oc_1, od_1, .func (PySem.W.fnOf "turned_table" "turned_table" (defArgs s_turned_table) (defBody s_turned_table) (defScope s_turned_table) .none kV_1 dc_1 pm_1 an_1 cd_1 ct_1), sl_1⟩) (h_1 : PySem.W.codeIn K cd_1 "turned_table" = true) (k_1 : PySem.W.keepIn K (.ref f_1) = true)
    (a_2 : PySem.W.nsIn K mainGlobals "sums_of_columns" = some (some (.ref f_2))) (l_2 : K.lookup f_2 = some ⟨oc_2, od_2, .func (PySem.W.fnOf "sums_of_columns" "sums_of_columns" (defArgs s_sums_of_columns) (defBody s_sums_of_columns) (defScope s_sums_of_columns) .none kV_2 dc_2 pm_2 an_2 cd_2 ct_2), sl_2⟩) (h_2 : PySem.W.codeIn K cd_2 "sums_of_columns" = true) (k_2 : PySem.W.keepIn K (.ref f_2) = true)
    (a_3 : PySem.W.nsIn K mainGlobals "nodes_next" = some (some (.ref f_3))) (l_3 : K.lookup f_3 = some ⟨oc_3, od_3, .func (PySem.W.fnOf "nodes_next" "nodes_next" (defArgs s_nodes_next) (defBody s_nodes_next) (defScope s_nodes_next) .none kV_3 dc_3 pm_3 an_3 cd_3 ct_3), sl_3⟩) (h_3 : PySem.W.codeIn K cd_3 "nodes_next" = true) (k_3 : PySem.W.keepIn K (.ref f_3) = true)
    (a_4 : PySem.W.nsIn K mainGlobals "reached_nodes" = some (some (.ref f_4))) (l_4 : K.lookup f_4 = some ⟨oc_4, od_4, .func (PySem.W.fnOf "reached_nodes" "reached_nodes" (defArgs s_reached_nodes) (defBody s_reached_nodes) (defScope s_reached_nodes) .none kV_4 dc_4 pm_4 an_4 cd_4 ct_4), sl_4⟩) (h_4 : PySem.W.codeIn K cd_4 "reached_nodes" = true) (k_4 : PySem.W.keepIn K (.ref f_4) = true)
    (a_5 : PySem.W.nsIn K mainGlobals "way_back" = some (some (.ref f_5))) (l_5 : K.lookup f_5 = some ⟨oc_5, od_5, .func (PySem.W.fnOf "way_back" "way_back" (defArgs s_way_back) (defBody s_way_back) (defScope s_way_back) .none kV_5 dc_5 pm_5 an_5 cd_5 ct_5), sl_5⟩) (h_5 : PySem.W.codeIn K cd_5 "way_back" = true) (k_5 : PySem.W.keepIn K (.ref f_5) = true)
    (a_6 : PySem.W.nsIn K mainGlobals "rooms_on" = some (some (.ref f_6))) (l_6 : K.lookup f_6 = some ⟨oc_6, od_6, .func (PySem.W.fnOf "rooms_on" "rooms_on" (defArgs s_rooms_on) (defBody s_rooms_on) (defScope s_rooms_on) .none kV_6 dc_6 pm_6 an_6 cd_6 ct_6), sl_6⟩) (h_6 : PySem.W.codeIn K cd_6 "rooms_on" = true) (k_6 : PySem.W.keepIn K (.ref f_6) = true)
    (a_7 : PySem.W.nsIn K mainGlobals "pushed_along" = some (some (.ref f_7))) (l_7 : K.lookup f_7 = some ⟨oc_7, od_7, .func (PySem.W.fnOf "pushed_along" "pushed_along" (defArgs s_pushed_along) (defBody s_pushed_along) (defScope s_pushed_along) .none kV_7 dc_7 pm_7 an_7 cd_7 ct_7), sl_7⟩) (h_7 : PySem.W.codeIn K cd_7 "pushed_along" = true) (k_7 : PySem.W.keepIn K (.ref f_7) = true)
    (a_8 : PySem.W.nsIn K mainGlobals "cut_of" = some (some (.ref f_8))) (l_8 : K.lookup f_8 = some ⟨oc_8, od_8, .func (PySem.W.fnOf "cut_of" "cut_of" (defArgs s_cut_of) (defBody s_cut_of) (defScope s_cut_of) .none kV_8 dc_8 pm_8 an_8 cd_8 ct_8), sl_8⟩) (h_8 : PySem.W.codeIn K cd_8 "cut_of" = true) (k_8 : PySem.W.keepIn K (.ref f_8) = true)
    (a_9 : PySem.W.nsIn K mainGlobals "cut_below" = some (some (.ref f_9))) (l_9 : K.lookup f_9 = some ⟨oc_9, od_9, .func (PySem.W.fnOf "cut_below" "cut_below" (defArgs s_cut_below) (defBody s_cut_below) (defScope s_cut_below) .none kV_9 dc_9 pm_9 an_9 cd_9 ct_9), sl_9⟩) (h_9 : PySem.W.codeIn K cd_9 "cut_below" = true) (k_9 : PySem.W.keepIn K (.ref f_9) = true)
    (a_10 : PySem.W.nsIn K mainGlobals "filled_up" = some (some (.ref f_10))) (l_10 : K.lookup f_10 = some ⟨oc_10, od_10, .func (PySem.W.fnOf "filled_up" "filled_up" (defArgs s_filled_up) (defBody s_filled_up) (defScope s_filled_up) .none kV_10 dc_10 pm_10 an_10 cd_10 ct_10), sl_10⟩) (h_10 : PySem.W.codeIn K cd_10 "filled_up" = true) (k_10 : PySem.W.keepIn K (.ref f_10) = true)
    (a_11 : PySem.W.nsIn K mainGlobals "table_between" = some (some (.ref f_11))) (l_11 : K.lookup f_11 = some ⟨oc_11, od_11, .func (PySem.W.fnOf "table_between" "table_between" (defArgs s_table_between) (defBody s_table_between) (defScope s_table_between) .none kV_11 dc_11 pm_11 an_11 cd_11 ct_11), sl_11⟩) (h_11 : PySem.W.codeIn K cd_11 "table_between" = true) (k_11 : PySem.W.keepIn K (.ref f_11) = true)
    (a_12 : PySem.W.nsIn K mainGlobals "one_changed" = some (some (.ref f_12))) (l_12 : K.lookup f_12 = some ⟨oc_12, od_12, .func (PySem.W.fnOf "one_changed" "one_changed" (defArgs s_one_changed) (defBody s_one_changed) (defScope s_one_changed) .none kV_12 dc_12 pm_12 an_12 cd_12 ct_12), sl_12⟩) (h_12 : PySem.W.codeIn K cd_12 "one_changed" = true) (k_12 : PySem.W.keepIn K (.ref f_12) = true)
    (a_13 : PySem.W.nsIn K mainGlobals "fate_of" = some (some (.ref f_13))) (l_13 : K.lookup f_13 = some ⟨oc_13, od_13, .func (PySem.W.fnOf "fate_of" "fate_of" (defArgs s_fate_of) (defBody s_fate_of) (defScope s_fate_of) .none kV_13 dc_13 pm_13 an_13 cd_13 ct_13), sl_13⟩) (h_13 : PySem.W.codeIn K cd_13 "fate_of" = true) (k_13 : PySem.W.keepIn K (.ref f_13) = true)
    (a_14 : PySem.W.nsIn K mainGlobals "_law_whole" = some (some (.ref f_14))) (l_14 : K.lookup f_14 = some ⟨oc_14, od_14, .func (PySem.W.fnOf "_law_whole" "_law_whole" (defArgs s__law_whole) (defBody s__law_whole) (defScope s__law_whole) .none kV_14 dc_14 pm_14 an_14 cd_14 ct_14), sl_14⟩) (h_14 : PySem.W.codeIn K cd_14 "_law_whole" = true) (k_14 : PySem.W.keepIn K (.ref f_14) = true)
    (a_15 : PySem.W.nsIn K mainGlobals "_law_deck" = some (some (.ref f_15))) (l_15 : K.lookup f_15 = some ⟨oc_15, od_15, .func (PySem.W.fnOf "_law_deck" "_law_deck" (defArgs s__law_deck) (defBody s__law_deck) (defScope s__law_deck) .none kV_15 dc_15 pm_15 an_15 cd_15 ct_15), sl_15⟩) (h_15 : PySem.W.codeIn K cd_15 "_law_deck" = true) (k_15 : PySem.W.keepIn K (.ref f_15) = true)
    (a_16 : PySem.W.nsIn K mainGlobals "_law_shape" = some (some (.ref f_16))) (l_16 : K.lookup f_16 = some ⟨oc_16, od_16, .func (PySem.W.fnOf "_law_shape" "_law_shape" (defArgs s__law_shape) (defBody s__law_shape) (defScope s__law_shape) .none kV_16 dc_16 pm_16 an_16 cd_16 ct_16), sl_16⟩) (h_16 : PySem.W.codeIn K cd_16 "_law_shape" = true) (k_16 : PySem.W.keepIn K (.ref f_16) = true)
    (a_17 : PySem.W.nsIn K mainGlobals "_law_ones" = some (some (.ref f_17))) (l_17 : K.lookup f_17 = some ⟨oc_17, od_17, .func (PySem.W.fnOf "_law_ones" "_law_ones" (defArgs s__law_ones) (defBody s__law_ones) (defScope s__law_ones) .none kV_17 dc_17 pm_17 an_17 cd_17 ct_17), sl_17⟩) (h_17 : PySem.W.codeIn K cd_17 "_law_ones" = true) (k_17 : PySem.W.keepIn K (.ref f_17) = true)
    (a_18 : PySem.W.nsIn K mainGlobals "_law_sums" = some (some (.ref f_18))) (l_18 : K.lookup f_18 = some ⟨oc_18, od_18, .func (PySem.W.fnOf "_law_sums" "_law_sums" (defArgs s__law_sums) (defBody s__law_sums) (defScope s__law_sums) .none kV_18 dc_18 pm_18 an_18 cd_18 ct_18), sl_18⟩) (h_18 : PySem.W.codeIn K cd_18 "_law_sums" = true) (k_18 : PySem.W.keepIn K (.ref f_18) = true)
    (a_19 : PySem.W.nsIn K mainGlobals "_law_rising" = some (some (.ref f_19))) (l_19 : K.lookup f_19 = some ⟨oc_19, od_19, .func (PySem.W.fnOf "_law_rising" "_law_rising" (defArgs s__law_rising) (defBody s__law_rising) (defScope s__law_rising) .none kV_19 dc_19 pm_19 an_19 cd_19 ct_19), sl_19⟩) (h_19 : PySem.W.codeIn K cd_19 "_law_rising" = true) (k_19 : PySem.W.keepIn K (.ref f_19) = true)
    (a_20 : PySem.W.nsIn K mainGlobals "_law_bars" = some (some (.ref f_20))) (l_20 : K.lookup f_20 = some ⟨oc_20, od_20, .func (PySem.W.fnOf "_law_bars" "_law_bars" (defArgs s__law_bars) (defBody s__law_bars) (defScope s__law_bars) .none kV_20 dc_20 pm_20 an_20 cd_20 ct_20), sl_20⟩) (h_20 : PySem.W.codeIn K cd_20 "_law_bars" = true) (k_20 : PySem.W.keepIn K (.ref f_20) = true)
    (a_21 : PySem.W.nsIn K mainGlobals "_law_lies" = some (some (.ref f_21))) (l_21 : K.lookup f_21 = some ⟨oc_21, od_21, .func (PySem.W.fnOf "_law_lies" "_law_lies" (defArgs s__law_lies) (defBody s__law_lies) (defScope s__law_lies) .none kV_21 dc_21 pm_21 an_21 cd_21 ct_21), sl_21⟩) (h_21 : PySem.W.codeIn K cd_21 "_law_lies" = true) (k_21 : PySem.W.keepIn K (.ref f_21) = true)
    (a_22 : PySem.W.nsIn K mainGlobals "_law_frame" = some (some (.ref f_22))) (l_22 : K.lookup f_22 = some ⟨oc_22, od_22, .func (PySem.W.fnOf "_law_frame" "_law_frame" (defArgs s__law_frame) (defBody s__law_frame) (defScope s__law_frame) .none kV_22 dc_22 pm_22 an_22 cd_22 ct_22), sl_22⟩) (h_22 : PySem.W.codeIn K cd_22 "_law_frame" = true) (k_22 : PySem.W.keepIn K (.ref f_22) = true)
    (a_23 : PySem.W.nsIn K mainGlobals "_law_right" = some (some (.ref f_23))) (l_23 : K.lookup f_23 = some ⟨oc_23, od_23, .func (PySem.W.fnOf "_law_right" "_law_right" (defArgs s__law_right) (defBody s__law_right) (defScope s__law_right) .none kV_23 dc_23 pm_23 an_23 cd_23 ct_23), sl_23⟩) (h_23 : PySem.W.codeIn K cd_23 "_law_right" = true) (k_23 : PySem.W.keepIn K (.ref f_23) = true)
    (a_24 : PySem.W.nsIn K mainGlobals "_law_other_class" = some (some (.ref f_24))) (l_24 : K.lookup f_24 = some ⟨oc_24, od_24, .func (PySem.W.fnOf "_law_other_class" "_law_other_class" (defArgs s__law_other_class) (defBody s__law_other_class) (defScope s__law_other_class) .none kV_24 dc_24 pm_24 an_24 cd_24 ct_24), sl_24⟩) (h_24 : PySem.W.codeIn K cd_24 "_law_other_class" = true) (k_24 : PySem.W.keepIn K (.ref f_24) = true)
    (a_25 : PySem.W.nsIn K mainGlobals "_law_seen" = some (some (.ref f_25))) (l_25 : K.lookup f_25 = some ⟨oc_25, od_25, .func (PySem.W.fnOf "_law_seen" "_law_seen" (defArgs s__law_seen) (defBody s__law_seen) (defScope s__law_seen) .none kV_25 dc_25 pm_25 an_25 cd_25 ct_25), sl_25⟩) (h_25 : PySem.W.codeIn K cd_25 "_law_seen" = true) (k_25 : PySem.W.keepIn K (.ref f_25) = true)
    (a_26 : PySem.W.nsIn K mainGlobals "_law_caught" = some (some (.ref f_26))) (l_26 : K.lookup f_26 = some ⟨oc_26, od_26, .func (PySem.W.fnOf "_law_caught" "_law_caught" (defArgs s__law_caught) (defBody s__law_caught) (defScope s__law_caught) .none kV_26 dc_26 pm_26 an_26 cd_26 ct_26), sl_26⟩) (h_26 : PySem.W.codeIn K cd_26 "_law_caught" = true) (k_26 : PySem.W.keepIn K (.ref f_26) = true)
    (a_27 : PySem.W.nsIn K mainGlobals "_law_spoiled" = some (some (.ref f_27))) (l_27 : K.lookup f_27 = some ⟨oc_27, od_27, .func (PySem.W.fnOf "_law_spoiled" "_law_spoiled" (defArgs s__law_spoiled) (defBody s__law_spoiled) (defScope s__law_spoiled) .none kV_27 dc_27 pm_27 an_27 cd_27 ct_27), sl_27⟩) (h_27 : PySem.W.codeIn K cd_27 "_law_spoiled" = true) (k_27 : PySem.W.keepIn K (.ref f_27) = true)
    (a_28 : PySem.W.nsIn K mainGlobals "_law_odd" = some (some (.ref f_28))) (l_28 : K.lookup f_28 = some ⟨oc_28, od_28, .func (PySem.W.fnOf "_law_odd" "_law_odd" (defArgs s__law_odd) (defBody s__law_odd) (defScope s__law_odd) .none kV_28 dc_28 pm_28 an_28 cd_28 ct_28), sl_28⟩) (h_28 : PySem.W.codeIn K cd_28 "_law_odd" = true) (k_28 : PySem.W.keepIn K (.ref f_28) = true)
    (a_29 : PySem.W.nsIn K mainGlobals "_law_apart" = some (some (.ref f_29))) (l_29 : K.lookup f_29 = some ⟨oc_29, od_29, .func (PySem.W.fnOf "_law_apart" "_law_apart" (defArgs s__law_apart) (defBody s__law_apart) (defScope s__law_apart) .none kV_29 dc_29 pm_29 an_29 cd_29 ct_29), sl_29⟩) (h_29 : PySem.W.codeIn K cd_29 "_law_apart" = true) (k_29 : PySem.W.keepIn K (.ref f_29) = true)
    (a_30 : PySem.W.nsIn K mainGlobals "_law_refused" = some (some (.ref f_30))) (l_30 : K.lookup f_30 = some ⟨oc_30, od_30, .func (PySem.W.fnOf "_law_refused" "_law_refused" (defArgs s__law_refused) (defBody s__law_refused) (defScope s__law_refused) .none kV_30 dc_30 pm_30 an_30 cd_30 ct_30), sl_30⟩) (h_30 : PySem.W.codeIn K cd_30 "_law_refused" = true) (k_30 : PySem.W.keepIn K (.ref f_30) = true)
    (a_31 : PySem.W.nsIn K mainGlobals "law" = some (some (.ref f_31))) (l_31 : K.lookup f_31 = some ⟨oc_31, od_31, .func (PySem.W.fnOf "law" "law" (defArgs s_law) (defBody s_law) (defScope s_law) .none kV_31 dc_31 pm_31 an_31 cd_31 ct_31), sl_31⟩) (h_31 : PySem.W.codeIn K cd_31 "law" = true) (k_31 : PySem.W.keepIn K (.ref f_31) = true)
    (z_0 : PySem.W.nsIn K mainGlobals "ValueError" = some none) (z_1 : PySem.W.nsIn K mainGlobals "bool" = some none) (z_2 : PySem.W.nsIn K mainGlobals "enumerate" = some none) (z_3 : PySem.W.nsIn K mainGlobals "int" = some none) (z_4 : PySem.W.nsIn K mainGlobals "isinstance" = some none) (z_5 : PySem.W.nsIn K mainGlobals "len" = some none) (z_6 : PySem.W.nsIn K mainGlobals "list" = some none) (z_7 : PySem.W.nsIn K mainGlobals "min" = some none) (z_8 : PySem.W.nsIn K mainGlobals "range" = some none) (z_9 : PySem.W.nsIn K mainGlobals "reversed" = some none) (z_10 : PySem.W.nsIn K mainGlobals "sorted" = some none) (z_11 : PySem.W.nsIn K mainGlobals "sum" = some none) (z_12 : PySem.W.nsIn K mainGlobals "tuple" = some none) (z_13 : PySem.W.nsIn K mainGlobals "zip" = some none) (g_MixError : PySem.W.nsIn K mainGlobals "MixError" = some (some (.ref C_MixError))) (g_NoTable : PySem.W.nsIn K mainGlobals "NoTable" = some (some (.ref C_NoTable))) (g_NoBottom : PySem.W.nsIn K mainGlobals "NoBottom" = some (some (.ref C_NoBottom))) (g_NotAlike : PySem.W.nsIn K mainGlobals "NotAlike" = some (some (.ref C_NotAlike))) (g_NoStep : PySem.W.nsIn K mainGlobals "NoStep" = some (some (.ref C_NoStep))) (g_NoMix : PySem.W.nsIn K mainGlobals "NoMix" = some (some (.ref C_NoMix))) (g_NotEven : PySem.W.nsIn K mainGlobals "NotEven" = some (some (.ref C_NotEven))) (g_NoSwap : PySem.W.nsIn K mainGlobals "NoSwap" = some (some (.ref C_NoSwap))) (g_NoBounds : PySem.W.nsIn K mainGlobals "NoBounds" = some (some (.ref C_NoBounds))) (g_NoPlace : PySem.W.nsIn K mainGlobals "NoPlace" = some (some (.ref C_NoPlace))) (g_NoSums : PySem.W.nsIn K mainGlobals "NoSums" = some (some (.ref C_NoSums))) (g_TooGreat : PySem.W.nsIn K mainGlobals "TooGreat" = some (some (.ref C_TooGreat))) (g_NoNumber : PySem.W.nsIn K mainGlobals "NoNumber" = some (some (.ref C_NoNumber))) (g_NoText : PySem.W.nsIn K mainGlobals "NoText" = some (some (.ref C_NoText))) (b_MixError : PySem.W.subIn K (.ref C_MixError) (.type "BaseException") = some true) (t_MixError : PySem.W.typeIn K (.ref C_MixError) = some (.type "type")) (d_MixError : PySem.W.hasDictIn K C_MixError = true) (t_NoTable : PySem.W.typeIn K (.ref C_NoTable) = some (.type "type")) (d_NoTable : PySem.W.hasDictIn K C_NoTable = true) (t_NoBottom : PySem.W.typeIn K (.ref C_NoBottom) = some (.type "type")) (d_NoBottom : PySem.W.hasDictIn K C_NoBottom = true) (t_NotAlike : PySem.W.typeIn K (.ref C_NotAlike) = some (.type "type")) (d_NotAlike : PySem.W.hasDictIn K C_NotAlike = true) (t_NoStep : PySem.W.typeIn K (.ref C_NoStep) = some (.type "type")) (d_NoStep : PySem.W.hasDictIn K C_NoStep = true) (t_NoMix : PySem.W.typeIn K (.ref C_NoMix) = some (.type "type")) (d_NoMix : PySem.W.hasDictIn K C_NoMix = true) (t_NotEven : PySem.W.typeIn K (.ref C_NotEven) = some (.type "type")) (d_NotEven : PySem.W.hasDictIn K C_NotEven = true) (t_NoSwap : PySem.W.typeIn K (.ref C_NoSwap) = some (.type "type")) (d_NoSwap : PySem.W.hasDictIn K C_NoSwap = true) (x_NoBounds : PySem.W.excIn K C_NoBounds [.type "ValueError", .type "Exception", .type "BaseException", .type "object"] "ValueError.__new__" = true) (p_NoBounds : PySem.W.keepIn K (.ref C_NoBounds) = true) (b_NoBounds : PySem.W.subIn K (.ref C_NoBounds) (.type "BaseException") = some true) (t_NoBounds : PySem.W.typeIn K (.ref C_NoBounds) = some (.type "type")) (d_NoBounds : PySem.W.hasDictIn K C_NoBounds = true) (x_NoPlace : PySem.W.excIn K C_NoPlace [.type "ValueError", .type "Exception", .type "BaseException", .type "object"] "ValueError.__new__" = true) (p_NoPlace : PySem.W.keepIn K (.ref C_NoPlace) = true) (b_NoPlace : PySem.W.subIn K (.ref C_NoPlace) (.type "BaseException") = some true) (t_NoPlace : PySem.W.typeIn K (.ref C_NoPlace) = some (.type "type")) (d_NoPlace : PySem.W.hasDictIn K C_NoPlace = true) (x_NoSums : PySem.W.excIn K C_NoSums [.type "ValueError", .type "Exception", .type "BaseException", .type "object"] "ValueError.__new__" = true) (p_NoSums : PySem.W.keepIn K (.ref C_NoSums) = true) (b_NoSums : PySem.W.subIn K (.ref C_NoSums) (.type "BaseException") = some true) (t_NoSums : PySem.W.typeIn K (.ref C_NoSums) = some (.type "type")) (d_NoSums : PySem.W.hasDictIn K C_NoSums = true) (t_TooGreat : PySem.W.typeIn K (.ref C_TooGreat) = some (.type "type")) (d_TooGreat : PySem.W.hasDictIn K C_TooGreat = true) (t_NoNumber : PySem.W.typeIn K (.ref C_NoNumber) = some (.type "type")) (d_NoNumber : PySem.W.hasDictIn K C_NoNumber = true) (t_NoText : PySem.W.typeIn K (.ref C_NoText) = some (.type "type")) (d_NoText : PySem.W.hasDictIn K C_NoText = true) (s_NoBounds_NoPlace : PySem.W.subIn K (.ref C_NoBounds) (.ref C_NoPlace) = some false) (s_NoPlace_NoPlace : PySem.W.subIn K (.ref C_NoPlace) (.ref C_NoPlace) = some true) (s_NoSums_NoPlace : PySem.W.subIn K (.ref C_NoSums) (.ref C_NoPlace) = some false) (s_NoBounds_NoSums : PySem.W.subIn K (.ref C_NoBounds) (.ref C_NoSums) = some false) (s_NoPlace_NoSums : PySem.W.subIn K (.ref C_NoPlace) (.ref C_NoSums) = some false) (s_NoSums_NoSums : PySem.W.subIn K (.ref C_NoSums) (.ref C_NoSums) = some true) (s_NoBounds_MixError : PySem.W.subIn K (.ref C_NoBounds) (.ref C_MixError) = some true) (s_NoPlace_MixError : PySem.W.subIn K (.ref C_NoPlace) (.ref C_MixError) = some true) (s_NoSums_MixError : PySem.W.subIn K (.ref C_NoSums) (.ref C_MixError) = some true) (q_NoBounds_NoSums : PySem.W.subIn K (.ref C_NoBounds) (.ref C_NoSums) = some false) (q_NoPlace_NoSums : PySem.W.subIn K (.ref C_NoPlace) (.ref C_NoSums) = some false) (q_NoSums_NoSums : PySem.W.subIn K (.ref C_NoSums) (.ref C_NoSums) = some true) (q_NoBounds_NoPlace : PySem.W.subIn K (.ref C_NoBounds) (.ref C_NoPlace) = some false) (q_NoPlace_NoPlace : PySem.W.subIn K (.ref C_NoPlace) (.ref C_NoPlace) = some true) (q_NoSums_NoPlace : PySem.W.subIn K (.ref C_NoSums) (.ref C_NoPlace) = some false) (q_NoBounds_NoTable : PySem.W.subIn K (.ref C_NoBounds) (.ref C_NoTable) = some false) (q_NoPlace_NoTable : PySem.W.subIn K (.ref C_NoPlace) (.ref C_NoTable) = some false) (q_NoSums_NoTable : PySem.W.subIn K (.ref C_NoSums) (.ref C_NoTable) = some false) (q_NoBounds_NoBottom : PySem.W.subIn K (.ref C_NoBounds) (.ref C_NoBottom) = some false) (q_NoPlace_NoBottom : PySem.W.subIn K (.ref C_NoPlace) (.ref C_NoBottom) = some false) (q_NoSums_NoBottom : PySem.W.subIn K (.ref C_NoSums) (.ref C_NoBottom) = some false) (q_NoBounds_NotAlike : PySem.W.subIn K (.ref C_NoBounds) (.ref C_NotAlike) = some false) (q_NoPlace_NotAlike : PySem.W.subIn K (.ref C_NoPlace) (.ref C_NotAlike) = some false) (q_NoSums_NotAlike : PySem.W.subIn K (.ref C_NoSums) (.ref C_NotAlike) = some false) (q_NoBounds_NoStep : PySem.W.subIn K (.ref C_NoBounds) (.ref C_NoStep) = some false) (q_NoPlace_NoStep : PySem.W.subIn K (.ref C_NoPlace) (.ref C_NoStep) = some false) (q_NoSums_NoStep : PySem.W.subIn K (.ref C_NoSums) (.ref C_NoStep) = some false) (q_NoBounds_NoMix : PySem.W.subIn K (.ref C_NoBounds) (.ref C_NoMix) = some false) (q_NoPlace_NoMix : PySem.W.subIn K (.ref C_NoPlace) (.ref C_NoMix) = some false) (q_NoSums_NoMix : PySem.W.subIn K (.ref C_NoSums) (.ref C_NoMix) = some false) (q_NoBounds_NotEven : PySem.W.subIn K (.ref C_NoBounds) (.ref C_NotEven) = some false) (q_NoPlace_NotEven : PySem.W.subIn K (.ref C_NoPlace) (.ref C_NotEven) = some false) (q_NoSums_NotEven : PySem.W.subIn K (.ref C_NoSums) (.ref C_NotEven) = some false) (q_NoBounds_NoSwap : PySem.W.subIn K (.ref C_NoBounds) (.ref C_NoSwap) = some false) (q_NoPlace_NoSwap : PySem.W.subIn K (.ref C_NoPlace) (.ref C_NoSwap) = some false) (q_NoSums_NoSwap : PySem.W.subIn K (.ref C_NoSums) (.ref C_NoSwap) = some false) (q_NoBounds_NoBounds : PySem.W.subIn K (.ref C_NoBounds) (.ref C_NoBounds) = some true) (q_NoPlace_NoBounds : PySem.W.subIn K (.ref C_NoPlace) (.ref C_NoBounds) = some false) (q_NoSums_NoBounds : PySem.W.subIn K (.ref C_NoSums) (.ref C_NoBounds) = some false) (q_NoBounds_TooGreat : PySem.W.subIn K (.ref C_NoBounds) (.ref C_TooGreat) = some false) (q_NoPlace_TooGreat : PySem.W.subIn K (.ref C_NoPlace) (.ref C_TooGreat) = some false) (q_NoSums_TooGreat : PySem.W.subIn K (.ref C_NoSums) (.ref C_TooGreat) = some false) (q_NoBounds_NoNumber : PySem.W.subIn K (.ref C_NoBounds) (.ref C_NoNumber) = some false) (q_NoPlace_NoNumber : PySem.W.subIn K (.ref C_NoPlace) (.ref C_NoNumber) = some false) (q_NoSums_NoNumber : PySem.W.subIn K (.ref C_NoSums) (.ref C_NoNumber) = some false) (q_NoBounds_NoText : PySem.W.subIn K (.ref C_NoBounds) (.ref C_NoText) = some false) (q_NoPlace_NoText : PySem.W.subIn K (.ref C_NoPlace) (.ref C_NoText) = some false) (q_NoSums_NoText : PySem.W.subIn K (.ref C_NoSums) (.ref C_NoText) = some false) (r_NoBounds : PySem.W.subIn K (.ref C_NoBounds) (.ref C_NoBounds) = some true) (r_NoPlace : PySem.W.subIn K (.ref C_NoPlace) (.ref C_NoPlace) = some true) (r_NoSums : PySem.W.subIn K (.ref C_NoSums) (.ref C_NoSums) = some true) (gn : PySem.W.specialIn K (.builtin "object.__class__") "__get__" = some (some (.builtin "getset_descriptor.__get__"))) (gt : PySem.W.takesIn K (.builtin "object.__class__") = some true) (ga_NoBounds : PySem.W.findIn K (.ref C_NoBounds) "__getattribute__" = some (some (.builtin "BaseException.__getattribute__"))) (gk_NoBounds : PySem.W.findIn K (.ref C_NoBounds) "__getattr__" = some none) (gc_NoBounds : PySem.W.findIn K (.ref C_NoBounds) "__class__" = some (some (.builtin "object.__class__"))) (gm_NoBounds : PySem.W.mroIn K C_NoBounds (.type "object") = some true) (ga_NoPlace : PySem.W.findIn K (.ref C_NoPlace) "__getattribute__" = some (some (.builtin "BaseException.__getattribute__"))) (gk_NoPlace : PySem.W.findIn K (.ref C_NoPlace) "__getattr__" = some none) (gc_NoPlace : PySem.W.findIn K (.ref C_NoPlace) "__class__" = some (some (.builtin "object.__class__"))) (gm_NoPlace : PySem.W.mroIn K C_NoPlace (.type "object") = some true) (ga_NoSums : PySem.W.findIn K (.ref C_NoSums) "__getattribute__" = some (some (.builtin "BaseException.__getattribute__"))) (gk_NoSums : PySem.W.findIn K (.ref C_NoSums) "__getattr__" = some none) (gc_NoSums : PySem.W.findIn K (.ref C_NoSums) "__class__" = some (some (.builtin "object.__class__"))) (gm_NoSums : PySem.W.mroIn K C_NoSums (.type "object") = some true) (gv_NoBounds : PySem.W.subIn K (.ref C_NoBounds) (.type "ValueError") = some true) (gv_NoPlace : PySem.W.subIn K (.ref C_NoPlace) (.type "ValueError") = some true) (gv_NoSums : PySem.W.subIn K (.ref C_NoSums) (.type "ValueError") = some true) :
    ∃ fd : FuncData, (∀ (s : Shared) (v : Value), BindsTo s fd ⟨[v], []⟩ [("_law_script", v)]) ∧ ∀ base : Heap, K.In base → base.Ns mainGlobals mg → FnOk l.prog w K mg base (L2.CX l.prog w) 8 fa fd ["_law_script"] (spLw K r_law) := by
  have e := hfa.symm.trans (PySem.W.mg_of X G a_31)
  cases e
  have T : Tf K mg := ⟨⟨⟨C_NoBounds, (PySem.W.mg_of X G g_NoBounds), x_NoBounds, p_NoBounds, b_NoBounds, t_NoBounds⟩⟩, ⟨⟨C_NoPlace, (PySem.W.mg_of X G g_NoPlace), x_NoPlace, p_NoPlace, b_NoPlace, t_NoPlace⟩⟩, ⟨⟨C_NoSums, (PySem.W.mg_of X G g_NoSums), x_NoSums, p_NoSums, b_NoSums, t_NoSums⟩⟩, ⟨C_NoPlace, (PySem.W.mg_of X G g_NoPlace), (cls_cons (cls_at (PySem.W.mg_of X G g_NoBounds) (exm_by (by decide) b_NoPlace d_NoPlace t_NoPlace s_NoBounds_NoPlace)) (cls_cons (cls_at (PySem.W.mg_of X G g_NoPlace) (exm_by (by decide) b_NoPlace d_NoPlace t_NoPlace s_NoPlace_NoPlace)) (cls_cons (cls_at (PySem.W.mg_of X G g_NoSums) (exm_by (by decide) b_NoPlace d_NoPlace t_NoPlace s_NoSums_NoPlace)) cls_nil)))⟩, ⟨C_NoSums, (PySem.W.mg_of X G g_NoSums), (cls_cons (cls_at (PySem.W.mg_of X G g_NoBounds) (exm_by (by decide) b_NoSums d_NoSums t_NoSums s_NoBounds_NoSums)) (cls_cons (cls_at (PySem.W.mg_of X G g_NoPlace) (exm_by (by decide) b_NoSums d_NoSums t_NoSums s_NoPlace_NoSums)) (cls_cons (cls_at (PySem.W.mg_of X G g_NoSums) (exm_by (by decide) b_NoSums d_NoSums t_NoSums s_NoSums_NoSums)) cls_nil)))⟩, ⟨C_MixError, (PySem.W.mg_of X G g_MixError), (cls_cons (cls_at (PySem.W.mg_of X G g_NoBounds) (exm_by (by decide) b_MixError d_MixError t_MixError s_NoBounds_MixError)) (cls_cons (cls_at (PySem.W.mg_of X G g_NoPlace) (exm_by (by decide) b_MixError d_MixError t_MixError s_NoPlace_MixError)) (cls_cons (cls_at (PySem.W.mg_of X G g_NoSums) (exm_by (by decide) b_MixError d_MixError t_MixError s_NoSums_MixError)) cls_nil)))⟩, ⟨⟨C_NoSums, (PySem.W.mg_of X G g_NoSums), (cls_cons (cls_at (PySem.W.mg_of X G g_NoBounds) (kit_by (by decide) d_NoSums t_NoSums q_NoBounds_NoSums r_NoBounds)) (cls_cons (cls_at (PySem.W.mg_of X G g_NoPlace) (kit_by (by decide) d_NoSums t_NoSums q_NoPlace_NoSums r_NoPlace)) (cls_cons (cls_at (PySem.W.mg_of X G g_NoSums) (kit_by (by decide) d_NoSums t_NoSums q_NoSums_NoSums r_NoSums)) cls_nil)))⟩⟩, ⟨⟨C_NoPlace, (PySem.W.mg_of X G g_NoPlace), (cls_cons (cls_at (PySem.W.mg_of X G g_NoBounds) (kit_by (by decide) d_NoPlace t_NoPlace q_NoBounds_NoPlace r_NoBounds)) (cls_cons (cls_at (PySem.W.mg_of X G g_NoPlace) (kit_by (by decide) d_NoPlace t_NoPlace q_NoPlace_NoPlace r_NoPlace)) (cls_cons (cls_at (PySem.W.mg_of X G g_NoSums) (kit_by (by decide) d_NoPlace t_NoPlace q_NoSums_NoPlace r_NoSums)) cls_nil)))⟩⟩, ⟨⟨C_NoTable, (PySem.W.mg_of X G g_NoTable), (cls_cons (cls_at (PySem.W.mg_of X G g_NoBounds) (kit_by (by decide) d_NoTable t_NoTable q_NoBounds_NoTable r_NoBounds)) (cls_cons (cls_at (PySem.W.mg_of X G g_NoPlace) (kit_by (by decide) d_NoTable t_NoTable q_NoPlace_NoTable r_NoPlace)) (cls_cons (cls_at (PySem.W.mg_of X G g_NoSums) (kit_by (by decide) d_NoTable t_NoTable q_NoSums_NoTable r_NoSums)) cls_nil)))⟩⟩, ⟨⟨C_NoBottom, (PySem.W.mg_of X G g_NoBottom), (cls_cons (cls_at (PySem.W.mg_of X G g_NoBounds) (kit_by (by decide) d_NoBottom t_NoBottom q_NoBounds_NoBottom r_NoBounds)) (cls_cons (cls_at (PySem.W.mg_of X G g_NoPlace) (kit_by (by decide) d_NoBottom t_NoBottom q_NoPlace_NoBottom r_NoPlace)) (cls_cons (cls_at (PySem.W.mg_of X G g_NoSums) (kit_by (by decide) d_NoBottom t_NoBottom q_NoSums_NoBottom r_NoSums)) cls_nil)))⟩⟩, ⟨⟨C_NotAlike, (PySem.W.mg_of X G g_NotAlike), (cls_cons (cls_at (PySem.W.mg_of X G g_NoBounds) (kit_by (by decide) d_NotAlike t_NotAlike q_NoBounds_NotAlike r_NoBounds)) (cls_cons (cls_at (PySem.W.mg_of X G g_NoPlace) (kit_by (by decide) d_NotAlike t_NotAlike q_NoPlace_NotAlike r_NoPlace)) (cls_cons (cls_at (PySem.W.mg_of X G g_NoSums) (kit_by (by decide) d_NotAlike t_NotAlike q_NoSums_NotAlike r_NoSums)) cls_nil)))⟩⟩, ⟨⟨C_NoStep, (PySem.W.mg_of X G g_NoStep), (cls_cons (cls_at (PySem.W.mg_of X G g_NoBounds) (kit_by (by decide) d_NoStep t_NoStep q_NoBounds_NoStep r_NoBounds)) (cls_cons (cls_at (PySem.W.mg_of X G g_NoPlace) (kit_by (by decide) d_NoStep t_NoStep q_NoPlace_NoStep r_NoPlace)) (cls_cons (cls_at (PySem.W.mg_of X G g_NoSums) (kit_by (by decide) d_NoStep t_NoStep q_NoSums_NoStep r_NoSums)) cls_nil)))⟩⟩, ⟨⟨C_NoMix, (PySem.W.mg_of X G g_NoMix), (cls_cons (cls_at (PySem.W.mg_of X G g_NoBounds) (kit_by (by decide) d_NoMix t_NoMix q_NoBounds_NoMix r_NoBounds)) (cls_cons (cls_at (PySem.W.mg_of X G g_NoPlace) (kit_by (by decide) d_NoMix t_NoMix q_NoPlace_NoMix r_NoPlace)) (cls_cons (cls_at (PySem.W.mg_of X G g_NoSums) (kit_by (by decide) d_NoMix t_NoMix q_NoSums_NoMix r_NoSums)) cls_nil)))⟩⟩, ⟨⟨C_NotEven, (PySem.W.mg_of X G g_NotEven), (cls_cons (cls_at (PySem.W.mg_of X G g_NoBounds) (kit_by (by decide) d_NotEven t_NotEven q_NoBounds_NotEven r_NoBounds)) (cls_cons (cls_at (PySem.W.mg_of X G g_NoPlace) (kit_by (by decide) d_NotEven t_NotEven q_NoPlace_NotEven r_NoPlace)) (cls_cons (cls_at (PySem.W.mg_of X G g_NoSums) (kit_by (by decide) d_NotEven t_NotEven q_NoSums_NotEven r_NoSums)) cls_nil)))⟩⟩, ⟨⟨C_NoSwap, (PySem.W.mg_of X G g_NoSwap), (cls_cons (cls_at (PySem.W.mg_of X G g_NoBounds) (kit_by (by decide) d_NoSwap t_NoSwap q_NoBounds_NoSwap r_NoBounds)) (cls_cons (cls_at (PySem.W.mg_of X G g_NoPlace) (kit_by (by decide) d_NoSwap t_NoSwap q_NoPlace_NoSwap r_NoPlace)) (cls_cons (cls_at (PySem.W.mg_of X G g_NoSums) (kit_by (by decide) d_NoSwap t_NoSwap q_NoSums_NoSwap r_NoSums)) cls_nil)))⟩⟩, ⟨⟨C_NoBounds, (PySem.W.mg_of X G g_NoBounds), (cls_cons (cls_at (PySem.W.mg_of X G g_NoBounds) (kit_by (by decide) d_NoBounds t_NoBounds q_NoBounds_NoBounds r_NoBounds)) (cls_cons (cls_at (PySem.W.mg_of X G g_NoPlace) (kit_by (by decide) d_NoBounds t_NoBounds q_NoPlace_NoBounds r_NoPlace)) (cls_cons (cls_at (PySem.W.mg_of X G g_NoSums) (kit_by (by decide) d_NoBounds t_NoBounds q_NoSums_NoBounds r_NoSums)) cls_nil)))⟩⟩, ⟨⟨C_TooGreat, (PySem.W.mg_of X G g_TooGreat), (cls_cons (cls_at (PySem.W.mg_of X G g_NoBounds) (kit_by (by decide) d_TooGreat t_TooGreat q_NoBounds_TooGreat r_NoBounds)) (cls_cons (cls_at (PySem.W.mg_of X G g_NoPlace) (kit_by (by decide) d_TooGreat t_TooGreat q_NoPlace_TooGreat r_NoPlace)) (cls_cons (cls_at (PySem.W.mg_of X G g_NoSums) (kit_by (by decide) d_TooGreat t_TooGreat q_NoSums_TooGreat r_NoSums)) cls_nil)))⟩⟩, ⟨⟨C_NoNumber, (PySem.W.mg_of X G g_NoNumber), (cls_cons (cls_at (PySem.W.mg_of X G g_NoBounds) (kit_by (by decide) d_NoNumber t_NoNumber q_NoBounds_NoNumber r_NoBounds)) (cls_cons (cls_at (PySem.W.mg_of X G g_NoPlace) (kit_by (by decide) d_NoNumber t_NoNumber q_NoPlace_NoNumber r_NoPlace)) (cls_cons (cls_at (PySem.W.mg_of X G g_NoSums) (kit_by (by decide) d_NoNumber t_NoNumber q_NoSums_NoNumber r_NoSums)) cls_nil)))⟩⟩, ⟨⟨C_NoText, (PySem.W.mg_of X G g_NoText), (cls_cons (cls_at (PySem.W.mg_of X G g_NoBounds) (kit_by (by decide) d_NoText t_NoText q_NoBounds_NoText r_NoBounds)) (cls_cons (cls_at (PySem.W.mg_of X G g_NoPlace) (kit_by (by decide) d_NoText t_NoText q_NoPlace_NoText r_NoPlace)) (cls_cons (cls_at (PySem.W.mg_of X G g_NoSums) (kit_by (by decide) d_NoText t_NoText q_NoSums_NoText r_NoSums)) cls_nil)))⟩⟩, (cls_cons (cls_at (PySem.W.mg_of X G g_NoBounds) ⟨ga_NoBounds, gk_NoBounds, b_NoBounds, d_NoBounds, gc_NoBounds, gn, gt, gm_NoBounds⟩) (cls_cons (cls_at (PySem.W.mg_of X G g_NoPlace) ⟨ga_NoPlace, gk_NoPlace, b_NoPlace, d_NoPlace, gc_NoPlace, gn, gt, gm_NoPlace⟩) (cls_cons (cls_at (PySem.W.mg_of X G g_NoSums) ⟨ga_NoSums, gk_NoSums, b_NoSums, d_NoSums, gc_NoSums, gn, gt, gm_NoSums⟩) cls_nil))), (cls_cons (cls_at (PySem.W.mg_of X G g_NoBounds) (kitV_by gv_NoBounds)) (cls_cons (cls_at (PySem.W.mg_of X G g_NoPlace) (kitV_by gv_NoPlace)) (cls_cons (cls_at (PySem.W.mg_of X G g_NoSums) (kitV_by gv_NoSums)) cls_nil))), PySem.W.mg_none_of X G z_0, PySem.W.mg_none_of X G z_1, PySem.W.mg_none_of X G z_2, PySem.W.mg_none_of X G z_3, PySem.W.mg_none_of X G z_4, PySem.W.mg_none_of X G z_5, PySem.W.mg_none_of X G z_6, PySem.W.mg_none_of X G z_7, PySem.W.mg_none_of X G z_8, PySem.W.mg_none_of X G z_9, PySem.W.mg_none_of X G z_10, PySem.W.mg_none_of X G z_11, PySem.W.mg_none_of X G z_12, PySem.W.mg_none_of X G z_13⟩
  have F_0 := fun_mk (st := s_sums_of_rows) l_0 h_0 k_0
  have B_0 := (F_0).binds (ps := ["table"]) fun _ _ _ _ _ _ us hl => match us, hl with | [_], _ => rfl
  have F_1 := fun_mk (st := s_turned_table) l_1 h_1 k_1
  have B_1 := (F_1).binds (ps := ["table"]) fun _ _ _ _ _ _ us hl => match us, hl with | [_], _ => rfl
  have F_2 := fun_mk (st := s_sums_of_columns) l_2 h_2 k_2
  have B_2 := (F_2).binds (ps := ["table"]) fun _ _ _ _ _ _ us hl => match us, hl with | [_], _ => rfl
  have F_3 := fun_mk (st := s_nodes_next) l_3 h_3 k_3
  have B_3 := (F_3).binds (ps := ["node", "cells", "low", "high"]) fun _ _ _ _ _ _ us hl => match us, hl with | [_, _, _, _], _ => rfl
  have F_4 := fun_mk (st := s_reached_nodes) l_4 h_4 k_4
  have B_4 := (F_4).binds (ps := ["rests", "wants", "cells", "low", "high"]) fun _ _ _ _ _ _ us hl => match us, hl with | [_, _, _, _, _], _ => rfl
  have F_5 := fun_mk (st := s_way_back) l_5 h_5 k_5
  have B_5 := (F_5).binds (ps := ["came", "node"]) fun _ _ _ _ _ _ us hl => match us, hl with | [_, _], _ => rfl
  have F_6 := fun_mk (st := s_rooms_on) l_6 h_6 k_6
  have B_6 := (F_6).binds (ps := ["nodes", "cells", "low", "high"]) fun _ _ _ _ _ _ us hl => match us, hl with | [_, _, _, _], _ => rfl
  have F_7 := fun_mk (st := s_pushed_along) l_7 h_7 k_7
  have B_7 := (F_7).binds (ps := ["nodes", "cells", "amount"]) fun _ _ _ _ _ _ us hl => match us, hl with | [_, _, _], _ => rfl
  have F_8 := fun_mk (st := s_cut_of) l_8 h_8 k_8
  have B_8 := (F_8).binds (ps := ["came"]) fun _ _ _ _ _ _ us hl => match us, hl with | [_], _ => rfl
  have F_9 := fun_mk (st := s_cut_below) l_9 h_9 k_9
  have B_9 := (F_9).binds (ps := ["rests", "wants"]) fun _ _ _ _ _ _ us hl => match us, hl with | [_, _], _ => rfl
  have F_10 := fun_mk (st := s_filled_up) l_10 h_10 k_10
  have B_10 := (F_10).binds (ps := ["rests", "wants", "low", "high"]) fun _ _ _ _ _ _ us hl => match us, hl with | [_, _, _, _], _ => rfl
  have F_11 := fun_mk (st := s_table_between) l_11 h_11 k_11
  have B_11 := (F_11).binds (ps := ["rows", "columns", "low", "high"]) fun _ _ _ _ _ _ us hl => match us, hl with | [_, _, _, _], _ => rfl
  have F_12 := fun_mk (st := s_one_changed) l_12 h_12 k_12
  have B_12 := (F_12).binds (ps := ["rows", "columns", "cell", "number", "other"]) fun _ _ _ _ _ _ us hl => match us, hl with | [_, _, _, _, _], _ => rfl
  have F_13 := fun_mk (st := s_fate_of) l_13 h_13 k_13
  have B_13 := (F_13).binds (ps := ["rows", "columns", "cell"]) fun _ _ _ _ _ _ us hl => match us, hl with | [_, _, _], _ => rfl
  have F_14 := fun_mk (st := s__law_whole) l_14 h_14 k_14
  have B_14 := (F_14).binds (ps := ["_law_found"]) fun _ _ _ _ _ _ us hl => match us, hl with | [_], _ => rfl
  have F_15 := fun_mk (st := s__law_deck) l_15 h_15 k_15
  have B_15 := (F_15).binds (ps := ["_law_script", "_law_many"]) fun _ _ _ _ _ _ us hl => match us, hl with | [_, _], _ => rfl
  have F_16 := fun_mk (st := s__law_shape) l_16 h_16 k_16
  have B_16 := (F_16).binds (ps := ["_law_cell"]) fun _ _ _ _ _ _ us hl => match us, hl with | [_], _ => rfl
  have F_17 := fun_mk (st := s__law_ones) l_17 h_17 k_17
  have B_17 := (F_17).binds (ps := ["_law_script", "_law_deck_here"]) fun _ _ _ _ _ _ us hl => match us, hl with | [_, _], _ => rfl
  have F_18 := fun_mk (st := s__law_sums) l_18 h_18 k_18
  have B_18 := (F_18).binds (ps := ["_law_table"]) fun _ _ _ _ _ _ us hl => match us, hl with | [_], _ => rfl
  have F_19 := fun_mk (st := s__law_rising) l_19 h_19 k_19
  have B_19 := (F_19).binds (ps := ["_law_some", "_law_many"]) fun _ _ _ _ _ _ us hl => match us, hl with | [_, _], _ => rfl
  have F_20 := fun_mk (st := s__law_bars) l_20 h_20 k_20
  have B_20 := (F_20).binds (ps := ["_law_some", "_law_others", "_law_rows", "_law_columns", "_law_low", "_law_high"]) fun _ _ _ _ _ _ us hl => match us, hl with | [_, _, _, _, _, _], _ => rfl
  have F_21 := fun_mk (st := s__law_lies) l_21 h_21 k_21
  have B_21 := (F_21).binds (ps := ["_law_found", "_law_sums_here", "_law_cell", "_law_due"]) fun _ _ _ _ _ _ us hl => match us, hl with | [_, _, _, _], _ => rfl
  have F_22 := fun_mk (st := s__law_frame) l_22 h_22 k_22
  have B_22 := (F_22).binds (ps := ["_law_sums_here", "_law_number", "_law_cell", "_law_other"]) fun _ _ _ _ _ _ us hl => match us, hl with | [_, _, _, _], _ => rfl
  have F_23 := fun_mk (st := s__law_right) l_23 h_23 k_23
  have B_23 := (F_23).binds (ps := ["_law_found", "_law_sums_here", "_law_cell"]) fun _ _ _ _ _ _ us hl => match us, hl with | [_, _, _], _ => rfl
  have F_24 := fun_mk (st := s__law_other_class) l_24 h_24 k_24
  have B_24 := (F_24).binds (ps := ["_law_error"]) fun _ _ _ _ _ _ us hl => match us, hl with | [_], _ => rfl
  have F_25 := fun_mk (st := s__law_seen) l_25 h_25 k_25
  have B_25 := (F_25).binds (ps := ["_law_sums_here", "_law_cell"]) fun _ _ _ _ _ _ us hl => match us, hl with | [_, _], _ => rfl
  have F_26 := fun_mk (st := s__law_caught) l_26 h_26 k_26
  have B_26 := (F_26).binds (ps := ["_law_sums_here", "_law_cell"]) fun _ _ _ _ _ _ us hl => match us, hl with | [_, _], _ => rfl
  have F_27 := fun_mk (st := s__law_spoiled) l_27 h_27 k_27
  have B_27 := (F_27).binds (ps := ["_law_sums_here", "_law_cell"]) fun _ _ _ _ _ _ us hl => match us, hl with | [_, _], _ => rfl
  have F_28 := fun_mk (st := s__law_odd) l_28 h_28 k_28
  have B_28 := (F_28).binds (ps := ["_law_sums_here", "_law_cell"]) fun _ _ _ _ _ _ us hl => match us, hl with | [_, _], _ => rfl
  have F_29 := fun_mk (st := s__law_apart) l_29 h_29 k_29
  have B_29 := (F_29).binds (ps := ["_law_one", "_law_other"]) fun _ _ _ _ _ _ us hl => match us, hl with | [_, _], _ => rfl
  have F_30 := fun_mk (st := s__law_refused) l_30 h_30 k_30
  have B_30 := (F_30).binds (ps := ["_law_sums_here", "_law_cell", "_law_due"]) fun _ _ _ _ _ _ us hl => match us, hl with | [_, _, _], _ => rfl
  have F_31 := fun_mk (st := s_law) l_31 h_31 k_31
  have B_31 := (F_31).binds (ps := ["_law_script"]) fun _ _ _ _ _ _ us hl => match us, hl with | [_], _ => rfl
  refine ⟨PySem.W.fnOf "law" "law" (defArgs s_law) (defBody s_law) (defScope s_law) .none kV_31 dc_31 pm_31 an_31 cd_31 ct_31, fun s v => .of_eq rfl, fun base _ _ => ?_⟩
  have D_0 := ok_sums_of_rows (P := l.prog) (w := w) (base := base) T F_0 (PySem.W.mg_of X G a_0) B_0 
  have D_1 := ok_turned_table (P := l.prog) (w := w) (base := base) T F_1 (PySem.W.mg_of X G a_1) B_1 
  have D_2 := ok_sums_of_columns (P := l.prog) (w := w) (base := base) T F_2 (PySem.W.mg_of X G a_2) B_2 D_0 D_1
  have D_3 := ok_nodes_next (P := l.prog) (w := w) (base := base) T F_3 (PySem.W.mg_of X G a_3) B_3 
  have D_4 := ok_reached_nodes (P := l.prog) (w := w) (base := base) T F_4 (PySem.W.mg_of X G a_4) B_4 D_3
  have D_5 := ok_way_back (P := l.prog) (w := w) (base := base) T F_5 (PySem.W.mg_of X G a_5) B_5 
  have D_6 := ok_rooms_on (P := l.prog) (w := w) (base := base) T F_6 (PySem.W.mg_of X G a_6) B_6 
  have D_7 := ok_pushed_along (P := l.prog) (w := w) (base := base) T F_7 (PySem.W.mg_of X G a_7) B_7 
  have D_8 := ok_cut_of (P := l.prog) (w := w) (base := base) T F_8 (PySem.W.mg_of X G a_8) B_8 
  have D_9 := ok_cut_below (P := l.prog) (w := w) (base := base) T F_9 (PySem.W.mg_of X G a_9) B_9 
  have D_10 := ok_filled_up (P := l.prog) (w := w) (base := base) T F_10 (PySem.W.mg_of X G a_10) B_10 D_4 D_5 D_7 D_8 D_6
  have D_11 := ok_table_between (P := l.prog) (w := w) (base := base) T F_11 (PySem.W.mg_of X G a_11) B_11 D_9 D_10 D_0 D_2
  have D_12 := ok_one_changed (P := l.prog) (w := w) (base := base) T F_12 (PySem.W.mg_of X G a_12) B_12 
  have D_13 := ok_fate_of (P := l.prog) (w := w) (base := base) T F_13 (PySem.W.mg_of X G a_13) B_13 D_12 D_11
  have D_14 := ok__law_whole (P := l.prog) (w := w) (base := base) T F_14 (PySem.W.mg_of X G a_14) B_14 
  have D_15 := ok__law_deck (P := l.prog) (w := w) (base := base) T F_15 (PySem.W.mg_of X G a_15) B_15 
  have D_16 := ok__law_shape (P := l.prog) (w := w) (base := base) T F_16 (PySem.W.mg_of X G a_16) B_16 
  have D_17 := ok__law_ones (P := l.prog) (w := w) (base := base) T F_17 (PySem.W.mg_of X G a_17) B_17 D_16
  have D_18 := ok__law_sums (P := l.prog) (w := w) (base := base) T F_18 (PySem.W.mg_of X G a_18) B_18 
  have D_19 := ok__law_rising (P := l.prog) (w := w) (base := base) T F_19 (PySem.W.mg_of X G a_19) B_19 D_14
  have D_20 := ok__law_bars (P := l.prog) (w := w) (base := base) T F_20 (PySem.W.mg_of X G a_20) B_20 D_19
  have D_21 := ok__law_lies (P := l.prog) (w := w) (base := base) T F_21 (PySem.W.mg_of X G a_21) B_21 D_18 D_14
  have D_22 := ok__law_frame (P := l.prog) (w := w) (base := base) T F_22 (PySem.W.mg_of X G a_22) B_22 
  have D_23 := ok__law_right (P := l.prog) (w := w) (base := base) T F_23 (PySem.W.mg_of X G a_23) B_23 D_22 D_20 D_21
  have D_24 := ok__law_other_class (P := l.prog) (w := w) (base := base) T F_24 (PySem.W.mg_of X G a_24) B_24 
  have D_25 := ok__law_seen (P := l.prog) (w := w) (base := base) T F_25 (PySem.W.mg_of X G a_25) B_25 D_13 D_24
  have D_26 := ok__law_caught (P := l.prog) (w := w) (base := base) T F_26 (PySem.W.mg_of X G a_26) B_26 D_13
  have D_27 := ok__law_spoiled (P := l.prog) (w := w) (base := base) T F_27 (PySem.W.mg_of X G a_27) B_27 
  have D_28 := ok__law_odd (P := l.prog) (w := w) (base := base) T F_28 (PySem.W.mg_of X G a_28) B_28 
  have D_29 := ok__law_apart (P := l.prog) (w := w) (base := base) T F_29 (PySem.W.mg_of X G a_29) B_29 
  have D_30 := ok__law_refused (P := l.prog) (w := w) (base := base) T F_30 (PySem.W.mg_of X G a_30) B_30 D_26 D_25
  exact (fn_law (P := l.prog) (w := w) (base := base) T F_31 D_15 D_18 D_27 D_28 D_17 D_13 D_30 D_23 D_29).imp fun vs H Q E q => spLw_imp q
end Lw
open PySem PySem.W PyProof.Rows
set_option maxHeartbeats 0 in
theorem PySem.Challenge.cw_evenmix_k44_fates_holds : PySem.Challenge.rw_evenmix_k44_fates.Holds := by
  w_on; o_law; k_head; (case hw => w_witness2)
  k_fill
  refine L2.walk_of (l := PySem.Challenge.rw_evenmix_k44_fates) (n := 63) (k := 8) (x := "_law_script") (CX := fun w => L2.CX PySem.Challenge.rw_evenmix_k44_fates.prog w) (sp := fun w => Fx.spLw _ Lw.r_law) rfl (by decide) rfl ⟨rfl, by decide, by decide⟩ (fun w h Y => PySem.W.kIn_of Y) ?F (fun w H a ns hl ho hS => ⟨a, ns, rfl, hl, ho, hS, Lw.law_true ns hl, fun _ => rfl⟩) (fun w H s e s' h => Fx.passL' H s e s' h)
  case F =>
    intro w mg fa h KX G hmg
    refine' Lw.all_mk KX G hmg ?a_0 ?l_0 ?h_0 ?k_0 ?a_1 ?l_1 ?h_1 ?k_1 ?a_2 ?l_2 ?h_2 ?k_2 ?a_3 ?l_3 ?h_3 ?k_3 ?a_4 ?l_4 ?h_4 ?k_4 ?a_5 ?l_5 ?h_5 ?k_5 ?a_6 ?l_6 ?h_6 ?k_6 ?a_7 ?l_7 ?h_7 ?k_7 ?a_8 ?l_8 ?h_8 ?k_8 ?a_9 ?l_9 ?h_9 ?k_9 ?a_10 ?l_10 ?h_10 ?k_10 ?a_11 ?l_11 ?h_11 ?k_11 ?a_12 ?l_12 ?h_12 ?k_12 ?a_13 ?l_13 ?h_13 ?k_13 ?a_14 ?l_14 ?h_14 ?k_14 ?a_15 ?l_15 ?h_15 ?k_15 ?a_16 ?l_16 ?h_16 ?k_16 ?a_17 ?l_17 ?h_17 ?k_17 ?a_18 ?l_18 ?h_18 ?k_18 ?a_19 ?l_19 ?h_19 ?k_19 ?a_20 ?l_20 ?h_20 ?k_20 ?a_21 ?l_21 ?h_21 ?k_21 ?a_22 ?l_22 ?h_22 ?k_22 ?a_23 ?l_23 ?h_23 ?k_23 ?a_24 ?l_24 ?h_24 ?k_24 ?a_25 ?l_25 ?h_25 ?k_25 ?a_26 ?l_26 ?h_26 ?k_26 ?a_27 ?l_27 ?h_27 ?k_27 ?a_28 ?l_28 ?h_28 ?k_28 ?a_29 ?l_29 ?h_29 ?k_29 ?a_30 ?l_30 ?h_30 ?k_30 ?a_31 ?l_31 ?h_31 ?k_31 ?z_0 ?z_1 ?z_2 ?z_3 ?z_4 ?z_5 ?z_6 ?z_7 ?z_8 ?z_9 ?z_10 ?z_11 ?z_12 ?z_13 ?g_MixError ?g_NoTable ?g_NoBottom ?g_NotAlike ?g_NoStep ?g_NoMix ?g_NotEven ?g_NoSwap ?g_NoBounds ?g_NoPlace ?g_NoSums ?g_TooGreat ?g_NoNumber ?g_NoText ?b_MixError ?t_MixError ?d_MixError ?t_NoTable ?d_NoTable ?t_NoBottom ?d_NoBottom ?t_NotAlike ?d_NotAlike ?t_NoStep ?d_NoStep ?t_NoMix ?d_NoMix ?t_NotEven ?d_NotEven ?t_NoSwap ?d_NoSwap ?x_NoBounds ?p_NoBounds ?b_NoBounds ?t_NoBounds ?d_NoBounds ?x_NoPlace ?p_NoPlace ?b_NoPlace ?t_NoPlace ?d_NoPlace ?x_NoSums ?p_NoSums ?b_NoSums ?t_NoSums ?d_NoSums ?t_TooGreat ?d_TooGreat ?t_NoNumber ?d_NoNumber ?t_NoText ?d_NoText ?s_NoBounds_NoPlace ?s_NoPlace_NoPlace ?s_NoSums_NoPlace ?s_NoBounds_NoSums ?s_NoPlace_NoSums ?s_NoSums_NoSums ?s_NoBounds_MixError ?s_NoPlace_MixError ?s_NoSums_MixError ?q_NoBounds_NoSums ?q_NoPlace_NoSums ?q_NoSums_NoSums ?q_NoBounds_NoPlace ?q_NoPlace_NoPlace ?q_NoSums_NoPlace ?q_NoBounds_NoTable ?q_NoPlace_NoTable ?q_NoSums_NoTable ?q_NoBounds_NoBottom ?q_NoPlace_NoBottom ?q_NoSums_NoBottom ?q_NoBounds_NotAlike ?q_NoPlace_NotAlike ?q_NoSums_NotAlike ?q_NoBounds_NoStep ?q_NoPlace_NoStep ?q_NoSums_NoStep ?q_NoBounds_NoMix ?q_NoPlace_NoMix ?q_NoSums_NoMix ?q_NoBounds_NotEven ?q_NoPlace_NotEven ?q_NoSums_NotEven ?q_NoBounds_NoSwap ?q_NoPlace_NoSwap ?q_NoSums_NoSwap ?q_NoBounds_NoBounds ?q_NoPlace_NoBounds ?q_NoSums_NoBounds ?q_NoBounds_TooGreat ?q_NoPlace_TooGreat ?q_NoSums_TooGreat ?q_NoBounds_NoNumber ?q_NoPlace_NoNumber ?q_NoSums_NoNumber ?q_NoBounds_NoText ?q_NoPlace_NoText ?q_NoSums_NoText ?r_NoBounds ?r_NoPlace ?r_NoSums ?gn ?gt ?ga_NoBounds ?gk_NoBounds ?gc_NoBounds ?gm_NoBounds ?ga_NoPlace ?gk_NoPlace ?gc_NoPlace ?gm_NoPlace ?ga_NoSums ?gk_NoSums ?gc_NoSums ?gm_NoSums ?gv_NoBounds ?gv_NoPlace ?gv_NoSums
    (case a_0 => k_is); (case l_0 => k_is); (case h_0 => k_is); (case k_0 => k_is); (case a_1 => k_is); (case l_1 => k_is); (case h_1 => k_is); (case k_1 => k_is); (case a_2 => k_is); (case l_2 => k_is); (case h_2 => k_is); (case k_2 => k_is); (case a_3 => k_is); (case l_3 => k_is); (case h_3 => k_is); (case k_3 => k_is); (case a_4 => k_is); (case l_4 => k_is); (case h_4 => k_is); (case k_4 => k_is); (case a_5 => k_is); (case l_5 => k_is); (case h_5 => k_is); (case k_5 => k_is); (case a_6 => k_is); (case l_6 => k_is); (case h_6 => k_is); (case k_6 => k_is); (case a_7 => k_is); (case l_7 => k_is); (case h_7 => k_is); (case k_7 => k_is); (case a_8 => k_is); (case l_8 => k_is); (case h_8 => k_is); (case k_8 => k_is); (case a_9 => k_is); (case l_9 => k_is); (case h_9 => k_is); (case k_9 => k_is); (case a_10 => k_is); (case l_10 => k_is); (case h_10 => k_is); (case k_10 => k_is); (case a_11 => k_is); (case l_11 => k_is); (case h_11 => k_is); (case k_11 => k_is); (case a_12 => k_is); (case l_12 => k_is); (case h_12 => k_is); (case k_12 => k_is); (case a_13 => k_is); (case l_13 => k_is); (case h_13 => k_is); (case k_13 => k_is); (case a_14 => k_is); (case l_14 => k_is); (case h_14 => k_is); (case k_14 => k_is); (case a_15 => k_is); (case l_15 => k_is); (case h_15 => k_is); (case k_15 => k_is); (case a_16 => k_is); (case l_16 => k_is); (case h_16 => k_is); (case k_16 => k_is); (case a_17 => k_is); (case l_17 => k_is); (case h_17 => k_is); (case k_17 => k_is); (case a_18 => k_is); (case l_18 => k_is); (case h_18 => k_is); (case k_18 => k_is); (case a_19 => k_is); (case l_19 => k_is); (case h_19 => k_is); (case k_19 => k_is); (case a_20 => k_is); (case l_20 => k_is); (case h_20 => k_is); (case k_20 => k_is); (case a_21 => k_is); (case l_21 => k_is); (case h_21 => k_is); (case k_21 => k_is); (case a_22 => k_is); (case l_22 => k_is); (case h_22 => k_is); (case k_22 => k_is); (case a_23 => k_is); (case l_23 => k_is); (case h_23 => k_is); (case k_23 => k_is); (case a_24 => k_is); (case l_24 => k_is); (case h_24 => k_is); (case k_24 => k_is); (case a_25 => k_is); (case l_25 => k_is); (case h_25 => k_is); (case k_25 => k_is); (case a_26 => k_is); (case l_26 => k_is); (case h_26 => k_is); (case k_26 => k_is); (case a_27 => k_is); (case l_27 => k_is); (case h_27 => k_is); (case k_27 => k_is); (case a_28 => k_is); (case l_28 => k_is); (case h_28 => k_is); (case k_28 => k_is); (case a_29 => k_is); (case l_29 => k_is); (case h_29 => k_is); (case k_29 => k_is); (case a_30 => k_is); (case l_30 => k_is); (case h_30 => k_is); (case k_30 => k_is); (case a_31 => k_is); (case l_31 => k_is); (case h_31 => k_is); (case k_31 => k_is); (case z_0 => k_is); (case z_1 => k_is); (case z_2 => k_is); (case z_3 => k_is); (case z_4 => k_is); (case z_5 => k_is); (case z_6 => k_is); (case z_7 => k_is); (case z_8 => k_is); (case z_9 => k_is); (case z_10 => k_is); (case z_11 => k_is); (case z_12 => k_is); (case z_13 => k_is); (case g_MixError => k_is); (case g_NoTable => k_is); (case g_NoBottom => k_is); (case g_NotAlike => k_is); (case g_NoStep => k_is); (case g_NoMix => k_is); (case g_NotEven => k_is); (case g_NoSwap => k_is); (case g_NoBounds => k_is); (case g_NoPlace => k_is); (case g_NoSums => k_is); (case g_TooGreat => k_is); (case g_NoNumber => k_is); (case g_NoText => k_is); (case b_MixError => k_is); (case t_MixError => k_is); (case d_MixError => k_is); (case t_NoTable => k_is); (case d_NoTable => k_is); (case t_NoBottom => k_is); (case d_NoBottom => k_is); (case t_NotAlike => k_is); (case d_NotAlike => k_is); (case t_NoStep => k_is); (case d_NoStep => k_is); (case t_NoMix => k_is); (case d_NoMix => k_is); (case t_NotEven => k_is); (case d_NotEven => k_is); (case t_NoSwap => k_is); (case d_NoSwap => k_is); (case x_NoBounds => k_exc); (case p_NoBounds => k_is); (case b_NoBounds => k_is); (case t_NoBounds => k_is); (case d_NoBounds => k_is); (case x_NoPlace => k_exc); (case p_NoPlace => k_is); (case b_NoPlace => k_is); (case t_NoPlace => k_is); (case d_NoPlace => k_is); (case x_NoSums => k_exc); (case p_NoSums => k_is); (case b_NoSums => k_is); (case t_NoSums => k_is); (case d_NoSums => k_is); (case t_TooGreat => k_is); (case d_TooGreat => k_is); (case t_NoNumber => k_is); (case d_NoNumber => k_is); (case t_NoText => k_is); (case d_NoText => k_is); (case s_NoBounds_NoPlace => k_is); (case s_NoPlace_NoPlace => k_is); (case s_NoSums_NoPlace => k_is); (case s_NoBounds_NoSums => k_is); (case s_NoPlace_NoSums => k_is); (case s_NoSums_NoSums => k_is); (case s_NoBounds_MixError => k_is); (case s_NoPlace_MixError => k_is); (case s_NoSums_MixError => k_is); (case q_NoBounds_NoSums => k_is); (case q_NoPlace_NoSums => k_is); (case q_NoSums_NoSums => k_is); (case q_NoBounds_NoPlace => k_is); (case q_NoPlace_NoPlace => k_is); (case q_NoSums_NoPlace => k_is); (case q_NoBounds_NoTable => k_is); (case q_NoPlace_NoTable => k_is); (case q_NoSums_NoTable => k_is); (case q_NoBounds_NoBottom => k_is); (case q_NoPlace_NoBottom => k_is); (case q_NoSums_NoBottom => k_is); (case q_NoBounds_NotAlike => k_is); (case q_NoPlace_NotAlike => k_is); (case q_NoSums_NotAlike => k_is); (case q_NoBounds_NoStep => k_is); (case q_NoPlace_NoStep => k_is); (case q_NoSums_NoStep => k_is); (case q_NoBounds_NoMix => k_is); (case q_NoPlace_NoMix => k_is); (case q_NoSums_NoMix => k_is); (case q_NoBounds_NotEven => k_is); (case q_NoPlace_NotEven => k_is); (case q_NoSums_NotEven => k_is); (case q_NoBounds_NoSwap => k_is); (case q_NoPlace_NoSwap => k_is); (case q_NoSums_NoSwap => k_is); (case q_NoBounds_NoBounds => k_is); (case q_NoPlace_NoBounds => k_is); (case q_NoSums_NoBounds => k_is); (case q_NoBounds_TooGreat => k_is); (case q_NoPlace_TooGreat => k_is); (case q_NoSums_TooGreat => k_is); (case q_NoBounds_NoNumber => k_is); (case q_NoPlace_NoNumber => k_is); (case q_NoSums_NoNumber => k_is); (case q_NoBounds_NoText => k_is); (case q_NoPlace_NoText => k_is); (case q_NoSums_NoText => k_is); (case r_NoBounds => k_is); (case r_NoPlace => k_is); (case r_NoSums => k_is); (case gn => k_is); (case gt => k_is); (case ga_NoBounds => k_is); (case gk_NoBounds => k_is); (case gc_NoBounds => k_is); (case gm_NoBounds => k_is); (case ga_NoPlace => k_is); (case gk_NoPlace => k_is); (case gc_NoPlace => k_is); (case gm_NoPlace => k_is); (case ga_NoSums => k_is); (case gk_NoSums => k_is); (case gc_NoSums => k_is); (case gm_NoSums => k_is); (case gv_NoBounds => k_is); (case gv_NoPlace => k_is); (case gv_NoSums => k_is)
