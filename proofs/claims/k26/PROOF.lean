import PyProof.Rows.All
import Wide.All
import OpenK.AllK
import Wide.FinOn
import HandS.Base
import HandS.Call
import HandS.List
import HandS.Comp
import HandS.Exc
import HandS.TryOnly
import HandS.TryMany
import HandS.ExcOwn
import HandS.Words
import HandS.WordsExc
import HandS.Iter
import HandS.Wide
import HandS.WideBits
import HandS.Text
import HandS.IsInst
import HandS.Conv
import HandS.Style
import KE.GoesEnum
import KE.GoesMore
import PyProof.Draws
import PyProof.EnumMake
import HandS.TupMul
import HandS.Set
import HandS.SetFor
import HandS.SetKeys
import HandS.Strs
import HandS.TupSets
import HandS.ExcInit
import KE.KExcSuper
import HandS.ExcField
import PySem.Challenge.RW_callgames_k26_plays_of_tables
set_option Elab.async false
set_option linter.all false
set_option maxRecDepth 100000
set_option maxHeartbeats 1000000
/-! the D layer: values as pure data, lists by address, over the hand layer -/
namespace D2
open PySem PySem.Spec L2

/-! ### data -/
inductive D where
  | non | bl (b : Bool) | int (i : Int) | str (x : Str) | tup (xs : List D) | lro (xs : List D) | ref (a : Addr)
  | exc (a : Addr) (dd : Option Addr) (n : Str) (fn : List Str) (fv : List D)
deriving Inhabited

/-- a list that is never written -/
def FzL (K : PySem.W.Frag) (H : Hp) (a : Addr) (xs : List V) : Prop :=
  (∃ o, H a = some (.frz o (.lst xs))) ∨
    ∃ (o : Obj) (its : Array Value) (n : Nat), K.lookup a = some o ∧ o.cls = .type "list" ∧ o.dict = none ∧ o.data = .seq its n ∧ its.size ≤ sizeLine ∧ Vals xs its.toList
theorem FzL.sq {K : PySem.W.Frag} {H : Hp} {a : Addr} {xs : List V} (h : FzL K H a xs) : SqL K H a xs := by
  rcases h with ⟨o, h⟩ | h
  · exact .inl (.inr ⟨o, h⟩)
  · exact .inr h
mutual
/-- v stands for d -/
def Rep (K : PySem.W.Frag) (H : Hp) : D → V → Prop
  | .non, v => v = .non
  | .bl b, v => v = .bl b
  | .int i, v => v = .int i
  | .str x, v => v = .str x ∧ PyData.strOk x = true
  | .tup ds, v => ∃ a vs, v = .ref a ∧ SqT K H a vs ∧ RepL K H ds vs
  | .lro ds, v => ∃ a vs, v = .ref a ∧ FzL K H a vs ∧ RepL K H ds vs
  | .ref a, v => v = .ref a
  | .exc a dd _ fn fv, v => v = .ref a ∧ ∃ vs, RepL K H fv vs ∧ (fv = [] ∨ ∃ d, dd = some d ∧ H d = some (.xd (fn.zip vs)) ∧ fn.length = fv.length)
def RepL (K : PySem.W.Frag) (H : Hp) : List D → List V → Prop
  | [], vs => vs = []
  | d :: ds, vs => ∃ v r, vs = v :: r ∧ Rep K H d v ∧ RepL K H ds r
end
/-- an object that is never written -/
def Im : HO → Prop
  | .tup _ => True
  | .frz _ (.tup _) => True
  | .frz _ (.lst _) => True
  | .xd _ => True
  | .own _ => True
  | _ => False
def TK (H H' : Hp) : Prop := ∀ a o, H a = some o → Im o → H' a = some o
theorem TK.refl (H : Hp) : TK H H := fun _ _ h _ => h
theorem TK.trans {H H1 H2 : Hp} (a : TK H H1) (b : TK H1 H2) : TK H H2 := fun c o h i => b c o (a c o h i) i
theorem TK.sqT {K : PySem.W.Frag} {H H' : Hp} (k : TK H H') {a : Addr} {xs : List V} (h : SqT K H a xs) : SqT K H' a xs := by
  rcases h with (h | ⟨o, h⟩) | h
  · exact .inl (.inl (k _ _ h trivial))
  · exact .inl (.inr ⟨o, k _ _ h trivial⟩)
  · exact .inr h
theorem TK.fzL {K : PySem.W.Frag} {H H' : Hp} (k : TK H H') {a : Addr} {xs : List V} (h : FzL K H a xs) : FzL K H' a xs := by
  rcases h with ⟨o, h⟩ | h
  · exact .inl ⟨o, k _ _ h trivial⟩
  · exact .inr h
mutual
theorem Rep.tk {K : PySem.W.Frag} {H H' : Hp} (k : TK H H') : ∀ (d : D) (v : V), Rep K H d v → Rep K H' d v
  | .non, _, h => h
  | .bl _, _, h => h
  | .int _, _, h => h
  | .str _, _, h => h
  | .ref _, _, h => h
  | .tup ds, _, ⟨a, vs, e, h, r⟩ => ⟨a, vs, e, k.sqT h, RepL.tk k ds vs r⟩
  | .lro ds, _, ⟨a, vs, e, h, r⟩ => ⟨a, vs, e, k.fzL h, RepL.tk k ds vs r⟩
  | .exc _ _ _ _ fv, _, ⟨e, vs, r, h⟩ => ⟨e, vs, RepL.tk k fv vs r, h.imp id fun ⟨d, e1, e2, e3⟩ => ⟨d, e1, k _ _ e2 trivial, e3⟩⟩
theorem RepL.tk {K : PySem.W.Frag} {H H' : Hp} (k : TK H H') : ∀ (ds : List D) (vs : List V), RepL K H ds vs → RepL K H' ds vs
  | [], _, h => h
  | d :: ds, _, ⟨v, r, e, h, q⟩ => ⟨v, r, e, Rep.tk k d v h, RepL.tk k ds r q⟩
end
section
variable {K : PySem.W.Frag} {H : Hp}
theorem RepL.length : ∀ {ds : List D} {vs : List V}, RepL K H ds vs → ds.length = vs.length
  | [], _, h => by cases (show _ = [] from h); rfl
  | d :: ds, _, ⟨v, r, e, _, q⟩ => by subst e; simp [RepL.length q]
theorem RepL.get : ∀ {ds : List D} {vs : List V} {i : Nat} {d : D}, RepL K H ds vs → ds[i]? = some d → ∃ v, vs[i]? = some v ∧ Rep K H d v
  | [], _, _, _, _, e => by simp at e
  | d :: ds, _, 0, x, ⟨v, r, e, h, q⟩, e2 => by subst e; simp at e2; subst e2; exact ⟨v, rfl, h⟩
  | d :: ds, _, i + 1, x, ⟨v, r, e, h, q⟩, e2 => by
    subst e
    obtain ⟨u, h1, h2⟩ := RepL.get (i := i) (d := x) q (by simpa using e2)
    exact ⟨u, by simpa using h1, h2⟩
theorem RepL.append : ∀ {ds es : List D} {vs us : List V}, RepL K H ds vs → RepL K H es us → RepL K H (ds ++ es) (vs ++ us)
  | [], _, _, _, h, q => by cases (show _ = [] from h); exact q
  | d :: ds, _, _, _, ⟨v, r, e, h, q⟩, q2 => by subst e; exact ⟨v, r ++ _, rfl, h, RepL.append q q2⟩
theorem RepL.take : ∀ (n : Nat) {ds : List D} {vs : List V}, RepL K H ds vs → RepL K H (ds.take n) (vs.take n)
  | 0, _, _, _ => by simp [RepL]
  | n + 1, [], _, h => by cases (show _ = [] from h); simp [RepL]
  | n + 1, d :: ds, _, ⟨v, r, e, h, q⟩ => by subst e; exact ⟨v, r.take n, rfl, h, RepL.take n q⟩
theorem RepL.drop : ∀ (n : Nat) {ds : List D} {vs : List V}, RepL K H ds vs → RepL K H (ds.drop n) (vs.drop n)
  | 0, _, _, h => by simpa using h
  | n + 1, [], _, h => by cases (show _ = [] from h); simp [RepL]
  | n + 1, d :: ds, _, ⟨v, r, e, h, q⟩ => by subst e; simpa using RepL.drop n q
theorem RepL.set : ∀ (i : Nat) {ds : List D} {vs : List V} {d : D} {v : V}, Rep K H d v → RepL K H ds vs → RepL K H (ds.set i d) (vs.set i v)
  | _, [], _, _, _, _, h => by cases (show _ = [] from h); simp [RepL]
  | 0, d :: ds, _, _, _, r0, ⟨v, r, e, h, q⟩ => by subst e; exact ⟨_, r, rfl, r0, q⟩
  | i + 1, d :: ds, _, _, _, r0, ⟨v, r, e, h, q⟩ => by subst e; exact ⟨v, _, rfl, h, RepL.set i r0 q⟩
theorem RepL.eraseIdx : ∀ (i : Nat) {ds : List D} {vs : List V}, RepL K H ds vs → RepL K H (ds.eraseIdx i) (vs.eraseIdx i)
  | _, [], _, h => by cases (show _ = [] from h); simp [RepL]
  | 0, d :: ds, _, ⟨v, r, e, h, q⟩ => by subst e; exact q
  | i + 1, d :: ds, _, ⟨v, r, e, h, q⟩ => by subst e; exact ⟨v, _, rfl, h, RepL.eraseIdx i q⟩
theorem RepL.reverse {ds : List D} {vs : List V} (h : RepL K H ds vs) : RepL K H ds.reverse vs.reverse := by
  induction ds generalizing vs with
  | nil => cases (show _ = [] from h); simp [RepL]
  | cons d ds ih =>
    obtain ⟨v, r, e, h, q⟩ := h
    subst e
    rw [List.reverse_cons, List.reverse_cons]
    exact RepL.append (ih q) ⟨v, [], rfl, h, rfl⟩
theorem RepL.one {d : D} {v : V} (h : Rep K H d v) : RepL K H [d] [v] := ⟨v, [], rfl, h, rfl⟩
theorem RepL.dropLast {ds : List D} {vs : List V} (h : RepL K H ds vs) : RepL K H ds.dropLast vs.dropLast := by
  rw [List.dropLast_eq_take, List.dropLast_eq_take, h.length]; exact RepL.take _ h
theorem RepL.rep {ds : List D} {vs : List V} (h : RepL K H ds vs) : ∀ k : Nat, RepL K H (List.replicate k ds).flatten (List.replicate k vs).flatten
  | 0 => by simp [RepL]
  | k + 1 => by simp only [List.replicate_succ, List.flatten_cons]; exact RepL.append h (RepL.rep h k)
theorem RepL.none_of {ds : List D} {vs : List V} {i : Nat} (h : RepL K H ds vs) (e : ds[i]? = none) : vs[i]? = none := by
  have := h.length
  rw [List.getElem?_eq_none_iff] at e ⊢
  omega
theorem repL_ints : ∀ {ns : List Int} {vs : List V}, RepL K H (ns.map D.int) vs → vs = ns.map V.int
  | [], _, h => h
  | n :: ns, _, ⟨v, r, e, h, q⟩ => by subst e; cases (show v = _ from h); rw [repL_ints q]; rfl
theorem repL_of_ints : ∀ (ns : List Int), RepL K H (ns.map D.int) (ns.map V.int)
  | [] => rfl
  | n :: ns => ⟨_, _, rfl, rfl, repL_of_ints ns⟩
theorem repL_strs : ∀ {ns : List Str} {vs : List V}, RepL K H (ns.map D.str) vs → vs = ns.map V.str
  | [], _, h => h
  | n :: ns, _, ⟨v, r, e, h, q⟩ => by subst e; cases (show v = _ from h.1); rw [repL_strs q]; rfl
theorem repL_bls : ∀ {ns : List Bool} {vs : List V}, RepL K H (ns.map D.bl) vs → vs = ns.map V.bl
  | [], _, h => h
  | n :: ns, _, ⟨v, r, e, h, q⟩ => by subst e; cases (show v = _ from h); rw [repL_bls q]; rfl
end

/-! ### lists by address -/
inductive DO where
  | lst (ds : List D)
  | dct (kvs : List (Key × D))
  | dtp (kvs : List (List Key × D))
  | obj (C : Addr) (fs : List (Str × D))
abbrev DH := Addr → Option DO
def upd (L : DH) (a : Addr) (o : DO) : DH := fun b => if b = a then some o else L b
theorem updD_same {L : DH} {a : Addr} {o : DO} : upd L a o a = some o := by unfold upd; rw [if_pos rfl]
theorem updD_ne {L : DH} {a b : Addr} {o : DO} (h : b ≠ a) : upd L a o b = L b := by unfold upd; rw [if_neg h]
theorem updD_upd {L : DH} {a : Addr} {o u : DO} : upd (upd L a o) a u = upd L a u := by
  funext b; unfold upd; split <;> rfl
def OkO (K : PySem.W.Frag) (H : Hp) (a : Addr) : DO → Prop
  | .lst ds => ∃ vs, H a = some (.lst vs) ∧ RepL K H ds vs
  | .dct kvs => ∃ vs, H a = some (.dK ((kvs.map (·.1)).zip vs)) ∧ RepL K H (kvs.map (·.2)) vs
  | .dtp kvs => ∃ vs, H a = some (.dT ((kvs.map (·.1)).zip vs)) ∧ RepL K H (kvs.map (·.2)) vs
  | .obj C fs => ∃ dx vs, H a = some (.ins C dx ((fs.map (·.1)).zip vs)) ∧ H dx = some (.own a) ∧ RepL K H (fs.map (·.2)) vs
def HR (K : PySem.W.Frag) (H : Hp) (L : DH) : Prop := ∀ a o, L a = some o → OkO K H a o
/-- what is not in L stays -/
def Kp (H : Hp) (L : DH) (H' : Hp) (L' : DH) : Prop := ∀ a o, H a = some o → L a = none → H' a = some o ∧ L' a = none
section
variable {K : PySem.W.Frag} {H H' H1 H2 : Hp} {L L' L1 LB : DH}
theorem Kp.refl : Kp H L H L := fun _ _ h n => ⟨h, n⟩
theorem Kp.trans (a : Kp H L H1 L1) (b : Kp H1 L1 H2 LB) : Kp H L H2 LB := fun c o h n => b c o (a c o h n).1 (a c o h n).2
theorem OkO.live {a : Addr} {o : DO} (h : OkO K H a o) : ∃ u, H a = some u ∧ ¬ Im u := by
  cases o with
  | lst ds => obtain ⟨vs, h, _⟩ := h; exact ⟨_, h, id⟩
  | dct ds => obtain ⟨vs, h, _⟩ := h; exact ⟨_, h, id⟩
  | dtp ds => obtain ⟨vs, h, _⟩ := h; exact ⟨_, h, id⟩
  | obj C fs => obtain ⟨dx, vs, h, _⟩ := h; exact ⟨_, h, id⟩
theorem OkO.lst_of {a : Addr} {ds : List D} (h : OkO K H a (.lst ds)) : ∃ vs, H a = some (.lst vs) := let ⟨vs, h, _⟩ := h; ⟨vs, h⟩
theorem HR.free (r : HR K H L) {a : Addr} (h : H a = none) : L a = none := by
  cases e : L a with
  | none => rfl
  | some o =>
    obtain ⟨vs, q, _⟩ := (r a o e).live
    rw [h] at q; cases q
theorem Kp.tk (k : Kp H L H' L') (r : HR K H L) : TK H H' := fun a o h i => by
  refine (k a o h ?_).1
  cases e : L a with
  | none => rfl
  | some u =>
    obtain ⟨vs, q, ni⟩ := (r a u e).live
    rw [h] at q; cases q; exact (ni i).elim
theorem OkO.tk (k : TK H H') {a : Addr} {o : DO} (h : OkO K H a o) (e : ∀ u, H a = some u → H' a = some u) : OkO K H' a o := by
  cases o with
  | lst ds => obtain ⟨vs, h, r⟩ := h; exact ⟨vs, e _ h, RepL.tk k ds vs r⟩
  | dct ds => obtain ⟨vs, h, r⟩ := h; exact ⟨vs, e _ h, RepL.tk k _ vs r⟩
  | dtp ds => obtain ⟨vs, h, r⟩ := h; exact ⟨vs, e _ h, RepL.tk k _ vs r⟩
  | obj C fs => obtain ⟨dx, vs, h, h2, r⟩ := h; exact ⟨dx, vs, e _ h, k _ _ h2 trivial, RepL.tk k _ vs r⟩
/-- a smaller L -/
def Le (L' L : DH) : Prop := ∀ a o, L' a = some o → L a = some o
theorem Le.refl : Le L L := fun _ _ h => h
theorem Le.trans (a : Le L L1) (b : Le L1 L2) : Le L L2 := fun c o h => b c o (a c o h)
theorem Le.none (l : Le L' L) {a : Addr} (h : L a = none) : L' a = none := by
  cases e : L' a with
  | none => rfl
  | some o => rw [l a o e] at h; cases h
theorem HR.le (r : HR K H L) (l : Le L' L) : HR K H L' := fun a o h => r a o (l a o h)
theorem Kp.le (k : Kp H L H' L1) (l : Le L' L1) : Kp H L H' L' := fun a o h n => ⟨(k a o h n).1, l.none (k a o h n).2⟩
theorem Le.upd {a : Addr} {o : DO} (h : L a = Option.none) : Le L (upd L a o) := fun b u e => by
  rw [updD_ne (by rintro rfl; rw [h] at e; cases e)]; exact e
/-- a new list -/
theorem HR.new (r : HR K H L) {p : Addr} {ds : List D} {vs : List V} (hp : H p = none) (q : RepL K H ds vs) :
    HR K (L2.upd H p (.lst vs)) (upd L p (.lst ds)) ∧ Kp H L (L2.upd H p (.lst vs)) (upd L p (.lst ds)) := by
  have tk : TK H (L2.upd H p (.lst vs)) := fun a o h _ => by rw [upd_ne (ne_of_none h hp)]; exact h
  refine ⟨fun a o h => ?_, fun a o h n => ⟨by rw [upd_ne (ne_of_none h hp)]; exact h, by rw [updD_ne (ne_of_none h hp)]; exact n⟩⟩
  by_cases e : a = p
  · subst e
    rw [updD_same] at h; cases h
    exact ⟨vs, upd_same, RepL.tk tk ds vs q⟩
  · rw [updD_ne e] at h
    exact (r a o h).tk tk fun u hu => by rw [upd_ne e]; exact hu
/-- a list written -/
theorem HR.set (r : HR K H L) {p : Addr} {es ds : List D} {vs : List V} (hp : L p = some (.lst es)) (q : RepL K H ds vs) :
    HR K (L2.upd H p (.lst vs)) (upd L p (.lst ds)) ∧ Kp H L (L2.upd H p (.lst vs)) (upd L p (.lst ds)) := by
  obtain ⟨us, hu, _⟩ := r p _ hp
  have ne : ∀ a, L a = none → a ≠ p := fun a n e => by subst e; rw [n] at hp; cases hp
  have tk : TK H (L2.upd H p (.lst vs)) := fun a o h i => by
    rw [upd_ne]; exact h
    rintro rfl
    rw [hu] at h; cases h; exact i.elim
  refine ⟨fun a o h => ?_, fun a o h n => ⟨by rw [upd_ne (ne a n)]; exact h, by rw [updD_ne (ne a n)]; exact n⟩⟩
  by_cases e : a = p
  · subst e
    rw [updD_same] at h; cases h
    exact ⟨vs, upd_same, RepL.tk tk ds vs q⟩
  · rw [updD_ne e] at h
    exact (r a o h).tk tk fun u hu => by rw [upd_ne e]; exact hu
/-- another new object (a tuple) -/
theorem HR.laid (r : HR K H L) {p : Addr} {o : HO} (hp : H p = none) : HR K (L2.upd H p o) L ∧ Kp H L (L2.upd H p o) L := by
  have tk : TK H (L2.upd H p o) := fun a o h _ => by rw [upd_ne (ne_of_none h hp)]; exact h
  refine ⟨fun a o h => ?_, fun a o h n => ⟨by rw [upd_ne (ne_of_none h hp)]; exact h, n⟩⟩
  have ne : a ≠ p := by rintro rfl; rw [r.free hp] at h; cases h
  exact (r a o h).tk tk fun u hu => by rw [upd_ne ne]; exact hu
theorem HR.tk_new {p : Addr} {o : HO} (hp : H p = none) : TK H (L2.upd H p o) := fun a o h _ => by rw [upd_ne (ne_of_none h hp)]; exact h
end

/-! ### slots -/
abbrev DSt := List (Option D)
def SR (K : PySem.W.Frag) (H : Hp) (s : DSt) (σ : St) : Prop := s.length = σ.length ∧ ∀ (i : Nat) (d : D), s[i]? = some (some d) → ∃ v, σ[i]? = some (some v) ∧ Rep K H d v
section
variable {K : PySem.W.Frag} {H H' : Hp} {s : DSt} {σ : St}
theorem SR.tk (k : TK H H') (h : SR K H s σ) : SR K H' s σ := ⟨h.1, fun i d e => let ⟨v, e2, r⟩ := h.2 i d e; ⟨v, e2, Rep.tk k d v r⟩⟩
theorem SR.set (h : SR K H s σ) {d : D} {v : V} (r : Rep K H d v) (i : Nat) : SR K H (s.set i (some d)) (σ.set i (some v)) := by
  refine ⟨by simp [h.1], fun j e q => ?_⟩
  by_cases hj : i = j
  · subst hj
    rw [List.getElem?_set] at q
    simp at q
    obtain ⟨hl, e'⟩ := q
    rw [← e']
    refine ⟨v, ?_, r⟩
    rw [List.getElem?_set]
    simp [h.1 ▸ hl]
  · rw [List.getElem?_set_ne hj] at q
    obtain ⟨u, e2, r2⟩ := h.2 j e q
    exact ⟨u, by rw [List.getElem?_set_ne hj]; exact e2, r2⟩
theorem SR.none (h : SR K H s σ) (i : Nat) (o : Option V) : SR K H (s.set i none) (σ.set i o) := by
  refine ⟨by simp [h.1], fun j e q => ?_⟩
  by_cases hj : i = j
  · subst hj
    rw [List.getElem?_set] at q
    simp at q
  · rw [List.getElem?_set_ne hj] at q
    obtain ⟨u, e2, r2⟩ := h.2 j e q
    exact ⟨u, by rw [List.getElem?_set_ne hj]; exact e2, r2⟩
end
def dstart (n : Nat) (ds : List D) : DSt := ds.map some ++ List.replicate (n - ds.length) none
theorem RepL.slots {K : PySem.W.Frag} {H : Hp} {ds : List D} {vs : List V} (h : RepL K H ds vs) (N : List Str) : SR K H (dstart N.length ds) (L2.start N vs) := by
  refine ⟨by simp [dstart, L2.start, h.length], fun i d e => ?_⟩
  unfold dstart at e
  unfold L2.start
  by_cases hi : i < ds.length
  · rw [List.getElem?_append_left (by simpa using hi)] at e
    rw [List.getElem?_append_left (by simpa [← h.length] using hi)]
    rw [List.getElem?_map] at e ⊢
    cases q : ds[i]? with
    | none => rw [q] at e; cases e
    | some d' =>
      rw [q] at e
      have e' : d' = d := by simpa using e
      subst e'
      obtain ⟨v, h1, h2⟩ := h.get q
      exact ⟨v, by rw [h1]; rfl, h2⟩
  · rw [List.getElem?_append_right (by simpa using Nat.le_of_not_lt hi)] at e
    rw [List.getElem?_replicate] at e
    split at e <;> cases e

/-! ### expressions -/
/-- the written part, the module's names -/
structure KM where
  K : PySem.W.Frag
  mg : Str → Option Value
abbrev XD := Str → List (Str × D) → DH → Prop
abbrev DK := D → DH → Prop
abbrev DE := DSt → DH → DK → XD → Prop
abbrev DT := DSt → DH → (Bool → DH → Prop) → XD → Prop
abbrev DA := DSt → DH → (List D → DH → Prop) → XD → Prop
/-- an exception with its fields -/
def FRep (K : PySem.W.Frag) (H : Hp) : List (Str × D) → List (Str × V) → Prop
  | [], vs => vs = []
  | (f, d) :: fs, vs => ∃ v r, vs = (f, v) :: r ∧ Rep K H d v ∧ FRep K H fs r
def XRep (M : KM) (H : Hp) (C : Str) (fs : List (Str × D)) (cls : Value) (dx : Option Addr) : Prop :=
  M.mg C = some cls ∧ (fs = [] ∨ ∃ d vs, dx = some d ∧ H d = some (.xd vs) ∧ FRep M.K H fs vs)
/-- what stands behind an expression -/
structure LP (M : KM) (W : WX) (σ : St) (H : Hp) (L : DH) (E : XD) : Prop where
  ex : ∀ C fs L' cls dx H', E C fs L' → XRep M H' C fs cls dx → HR M.K H' L' → Kp H L H' L' → W cls dx σ H'
def liftE (M : KM) (W : WX) (de : DE) : TE := fun σ H Q => ∃ s L Qd Ed, SR M.K H s σ ∧ HR M.K H L ∧ de s L Qd Ed ∧
  (∀ d L' v H', Qd d L' → Rep M.K H' d v → HR M.K H' L' → Kp H L H' L' → Q v H') ∧ LP M W σ H L Ed
def liftT (M : KM) (W : WX) (de : DT) : TT := fun σ H Q => ∃ s L Qd Ed, SR M.K H s σ ∧ HR M.K H L ∧ de s L Qd Ed ∧
  (∀ b L' H', Qd b L' → HR M.K H' L' → Kp H L H' L' → Q b H') ∧ LP M W σ H L Ed
def liftA (M : KM) (W : WX) (de : DA) : TA := fun σ H Q => ∃ s L Qd Ed, SR M.K H s σ ∧ HR M.K H L ∧ de s L Qd Ed ∧
  (∀ ds L' vs H', Qd ds L' → RepL M.K H' ds vs → HR M.K H' L' → Kp H L H' L' → Q vs H') ∧ LP M W σ H L Ed
section
variable {M : KM} {W : WX} {σ : St} {H H1 : Hp} {L L1 : DH} {Ed : XD}
theorem LP.after (h : LP M W σ H L Ed) (k : Kp H L H1 L1) : LP M W σ H1 L1 Ed := ⟨fun C fs L' cls dx H' e x r k' => h.ex C fs L' cls dx H' e x r (k.trans k')⟩
end
theorem PE_mono {X : Cx} {e : Expr} {t t' : TE} (h : PE X e t) (i : ∀ σ H Q, t' σ H Q → t σ H Q) : PE X e t' := ⟨fun pins s σ H Q I q => h.run pins s σ H Q I (i σ H Q q)⟩
theorem PT_mono {X : Cx} {e : Expr} {t t' : TT} (h : PT X e t) (i : ∀ σ H Q, t' σ H Q → t σ H Q) : PT X e t' := ⟨fun pins s σ H Q I q => h.run pins s σ H Q I (i σ H Q q)⟩
theorem PW_mono {X : Cx} {e : Expr} {t t' : TT} (h : PW X e t) (i : ∀ σ H Q, t' σ H Q → t σ H Q) : PW X e t' := ⟨fun wh pins s σ H Q I q => h.run wh pins s σ H Q I (i σ H Q q)⟩
theorem PA_mono {X : Cx} {e : List Expr} {t t' : TA} (h : PA X e t) (i : ∀ σ H Q, t' σ H Q → t σ H Q) : PA X e t' := ⟨fun pos pins s σ H Q I q => h.run pos pins s σ H Q I (i σ H Q q)⟩
theorem PS_mono {X : Cx} {e : Stmt} {t t' : TS} (h : PS X e t) (i : ∀ D σ H, t' D σ H → t D σ H) : PS X e t' := ⟨fun pins s σ H D I q => h.run pins s σ H D I (i D σ H q)⟩
theorem PSs_mono {X : Cx} {e : List Stmt} {t t' : TS} (h : PSs X e t) (i : ∀ D σ H, t' D σ H → t D σ H) : PSs X e t' := ⟨fun pins s σ H D I q => h.run pins s σ H D I (i D σ H q)⟩
abbrev _root_.L2.Cx.km (X : Cx) : KM := ⟨X.K, X.mg⟩
/-- the judgements -/
structure QE (X : Cx) (W : WX) (e : Expr) (de : DE) : Prop where
  pe : PE X e (liftE X.km W de)
structure QT (X : Cx) (W : WX) (e : Expr) (de : DT) : Prop where
  pt : PT X e (liftT X.km W de)
structure QW (X : Cx) (W : WX) (e : Expr) (de : DT) : Prop where
  pw : PW X e (liftT X.km W de)
structure QA (X : Cx) (W : WX) (es : List Expr) (de : DA) : Prop where
  pa : PA X es (liftA X.km W de)

section
variable {M : KM} {W : WX} {σ : St} {H : Hp}
/-- one expression, then the rest -/
theorem liftE_bind {da : DE} {s : DSt} {L : DH} {Qd : DK} {Ed : XD} {R : VK} (hs : SR M.K H s σ) (hr : HR M.K H L) (lp : LP M W σ H L Ed) (h : da s L Qd Ed)
    (hk : ∀ d L1 x H1, Qd d L1 → Rep M.K H1 d x → HR M.K H1 L1 → Kp H L H1 L1 → SR M.K H1 s σ → TK H H1 → LP M W σ H1 L1 Ed → R x H1) : liftE M W da σ H R :=
  ⟨s, L, Qd, Ed, hs, hr, h, fun d L1 x H1 q r r1 k => hk d L1 x H1 q r r1 k (hs.tk (k.tk hr)) (k.tk hr) (lp.after k), lp⟩
theorem liftT_bind {da : DT} {s : DSt} {L : DH} {Qd : Bool → DH → Prop} {Ed : XD} {R : Bool → Hp → Prop} (hs : SR M.K H s σ) (hr : HR M.K H L) (lp : LP M W σ H L Ed) (h : da s L Qd Ed)
    (hk : ∀ d L1 H1, Qd d L1 → HR M.K H1 L1 → Kp H L H1 L1 → SR M.K H1 s σ → TK H H1 → LP M W σ H1 L1 Ed → R d H1) : liftT M W da σ H R :=
  ⟨s, L, Qd, Ed, hs, hr, h, fun d L1 H1 q r1 k => hk d L1 H1 q r1 k (hs.tk (k.tk hr)) (k.tk hr) (lp.after k), lp⟩
theorem liftA_bind {da : DA} {s : DSt} {L : DH} {Qd : List D → DH → Prop} {Ed : XD} {R : List V → Hp → Prop} (hs : SR M.K H s σ) (hr : HR M.K H L) (lp : LP M W σ H L Ed) (h : da s L Qd Ed)
    (hk : ∀ d L1 x H1, Qd d L1 → RepL M.K H1 d x → HR M.K H1 L1 → Kp H L H1 L1 → SR M.K H1 s σ → TK H H1 → LP M W σ H1 L1 Ed → R x H1) : liftA M W da σ H R :=
  ⟨s, L, Qd, Ed, hs, hr, h, fun d L1 x H1 q r r1 k => hk d L1 x H1 q r r1 k (hs.tk (k.tk hr)) (k.tk hr) (lp.after k), lp⟩
end
/-! names, constants -/
def dVar (i : Nat) : DE := fun s L Q _ => ∃ d, s[i]? = some (some d) ∧ Q d L
def dC (d : D) : DE := fun _ L Q _ => Q d L
section
variable {X : Cx} {W : WX} {pos : Pos} {a b c : Expr} {da db dc : DE}
theorem qv (i : Nat) {x : Str} (hN : X.N[i]? = some x := by rfl) (hv : Vis X.env.scope x := by first | exact Or.inl rfl | exact Or.inr (Or.inl rfl) | exact Or.inr (Or.inr rfl)) (hd : (x == ("__debug__" : Str)) = false := by decide)
    (hcd : (x == ("__classdict__" : Str)) = false := by decide) : QE X W (.Name x pos) (dVar i) :=
  ⟨PE_mono (pe_var hN hv hd hcd) fun σ H Q ⟨s, L, Qd, Ed, hs, hr, ⟨d, e, q⟩, hq, lp⟩ =>
    let ⟨v, e2, r⟩ := hs.2 i d e
    ⟨v, e2, hq d L v H q r hr .refl⟩⟩
theorem q_const {e : Expr} {v : V} {d : D} (h : PE X e (tC v)) (r : ∀ H, Rep X.K H d v) : QE X W e (dC d) :=
  ⟨PE_mono h fun σ H Q ⟨s, L, Qd, Ed, hs, hr, h, hq, lp⟩ => hq d L v H h (r H) hr .refl⟩
theorem q_int {i : Int} {j : Nat} : QE X W (.Constant (.int i) j pos) (dC (.int i)) := q_const pe_int fun _ => rfl
theorem q_bl {i : Bool} {j : Nat} : QE X W (.Constant (.bool i) j pos) (dC (.bl i)) := q_const pe_bl fun _ => rfl
theorem q_non {j : Nat} : QE X W (.Constant .none j pos) (dC .non) := q_const pe_non fun _ => rfl
theorem q_str {i : Str} {j : Nat} (h : PyData.strOk i = true := by decide +kernel) : QE X W (.Constant (.str i) j pos) (dC (.str i)) := q_const pe_str fun _ => ⟨rfl, h⟩
theorem q_glob {x : Str} {v : V} {d : D} {u : Value} (hg : Gl X x) (hm : X.mg x = some u) (rl : RelV v u) (r : ∀ H, Rep X.K H d v) (hd : (x == ("__debug__" : Str)) = false := by decide) : QE X W (.Name x pos) (dC d) := q_const (pe_glob hg hm rl hd) r
/-! operators by values -/
abbrev RD2 := D → D → DH → DK → Prop
def OpD (K : PySem.W.Frag) (r : R2) (rD : RD2) : Prop := ∀ (H : Hp) (L : DH) (d e : D) (x y : V) (Qd : DK) (Q : VK), Rep K H d x → Rep K H e y → HR K H L → rD d e L Qd →
  (∀ d' L' v H', Qd d' L' → Rep K H' d' v → HR K H' L' → Kp H L H' L' → Q v H') → r x y H Q
def dOp (rD : RD2) (da db : DE) : DE := fun s L Q E => da s L (fun x L1 => db s L1 (fun y L2 => rD x y L2 Q) E) E
theorem lift_op {r : R2} {rD : RD2} {M : KM} (h : OpD M.K r rD) {σ : St} {H : Hp} {Q : VK} (q : liftE M W (dOp rD da db) σ H Q) : tOp r (liftE M W da) (liftE M W db) σ H Q := by
  obtain ⟨s, L, Qd, Ed, hs, hr, q, hq, lp⟩ := q
  refine liftE_bind hs hr lp q fun d L1 x H1 q1 r1 hr1 k1 hs1 t1 lp1 => ?_
  refine liftE_bind hs1 hr1 lp1 q1 fun e L2 y H2 q2 r2 hr2 k2 hs2 t2 lp2 => ?_
  exact h H2 L2 d e x y Qd Q (Rep.tk t2 _ _ r1) r2 hr2 q2 fun d' L' v H' a b c k => hq d' L' v H' a b c ((k1.trans k2).trans k)
theorem q_op {op : Operator} {r : R2} {rD : RD2} (ho : OpR X (binaryOp op) r) (h : OpD X.K r rD) (ha : QE X W a da) (hb : QE X W b db) : QE X W (.BinOp a op b pos) (dOp rD da db) :=
  ⟨PE_mono (pe_op ho ha.pe hb.pe) fun _ _ _ q => lift_op h q⟩
theorem q_cmp {op : CmpOp} {r : R2} {rD : RD2} (ho : OpR X (compareOp op) r) (h : OpD X.K r rD) (ha : QE X W a da) (hb : QE X W b db) (hm : behindInMarks op b = false) : QE X W (.Compare a [op] [b] pos) (dOp rD da db) :=
  ⟨PE_mono (pe_cmpR ho ha.pe hb.pe hm) fun _ _ _ q => lift_op h q⟩
theorem q_ix {r : R2} {rD : RD2} (hi : IxR X r) (h : OpD X.K r rD) (ha : QE X W a da) (hb : QE X W b db) (hs : PlainIx b) : QE X W (.Subscript a b pos) (dOp rD da db) :=
  ⟨PE_mono (pe_ix hi ha.pe hb.pe hs) fun _ _ _ q => lift_op h q⟩
theorem OpD.or {K : PySem.W.Frag} {r r' : R2} {rD rD' : RD2} (h : OpD K r rD) (h' : OpD K r' rD') : OpD K (fun x y H Q => r x y H Q ∨ r' x y H Q) (fun x y L Q => rD x y L Q ∨ rD' x y L Q) :=
  fun H L d e x y Qd Q a b c q k => q.elim (fun z => .inl (h H L d e x y Qd Q a b c z k)) fun z => .inr (h' H L d e x y Qd Q a b c z k)
def UnD (K : PySem.W.Frag) (r : V → Hp → VK → Prop) (rD : D → DH → DK → Prop) : Prop := ∀ (H : Hp) (L : DH) (d : D) (x : V) (Qd : DK) (Q : VK), Rep K H d x → HR K H L → rD d L Qd →
  (∀ d' L' v H', Qd d' L' → Rep K H' d' v → HR K H' L' → Kp H L H' L' → Q v H') → r x H Q
def dUn (rD : D → DH → DK → Prop) (da : DE) : DE := fun s L Q E => da s L (fun x L1 => rD x L1 Q) E
theorem q_un {op : UnaryOp} {r : V → Hp → VK → Prop} {rD : D → DH → DK → Prop} (ho : UnR X (unaryOp op) r) (h : UnD X.K r rD) (ha : QE X W a da) : QE X W (.UnaryOp op a pos) (dUn rD da) :=
  ⟨PE_mono (pe_un ho ha.pe) fun σ H Q ⟨s, L, Qd, Ed, hs, hr, q, hq, lp⟩ => liftE_bind hs hr lp q fun d L1 x H1 q1 r1 hr1 k1 _ _ _ =>
    h H1 L1 d x Qd Q r1 hr1 q1 fun d' L' v H' a b c k => hq d' L' v H' a b c (k1.trans k)⟩
/-! arguments, displays, calls by values -/
def dNil : DA := fun _ L Q _ => Q [] L
def dCons (da : DE) (dr : DA) : DA := fun s L Q E => da s L (fun x L1 => dr s L1 (fun xs L2 => Q (x :: xs) L2) E) E
theorem qa_nil : QA X W [] dNil := ⟨PA_mono pa_nil fun σ H Q ⟨s, L, Qd, Ed, hs, hr, q, hq, lp⟩ => hq [] L [] H q rfl hr .refl⟩
theorem qa_cons {es : List Expr} {dr : DA} (ha : QE X W a da) (hb : QA X W es dr) (hs : starEach (a :: es) X.env = (false, eval a X.env) :: starEach es X.env := by rfl) : QA X W (a :: es) (dCons da dr) :=
  ⟨PA_mono (pa_cons ha.pe hb.pa hs) fun σ H Q ⟨s, L, Qd, Ed, hs, hr, q, hq, lp⟩ => liftE_bind hs hr lp q fun d L1 x H1 q1 r1 hr1 k1 hs1 t1 lp1 =>
    liftA_bind hs1 hr1 lp1 q1 fun ds L2 xs H2 q2 r2 hr2 k2 hs2 t2 lp2 => hq _ L2 _ H2 q2 ⟨x, xs, rfl, Rep.tk t2 _ _ r1, r2⟩ hr2 (k1.trans k2)⟩
def dTup (t : DA) : DE := fun s L Q E => t s L (fun ds L1 => ds.length ≤ 16777216 ∧ Q (.tup ds) L1) E
def dLst (t : DA) : DE := fun s L Q E => t s L (fun ds L1 => ds.length ≤ 16777216 ∧ ∀ p, L1 p = none → Q (.ref p) (upd L1 p (.lst ds))) E
theorem line_of {n : Nat} (h : n ≤ 16777216) : n ≤ sizeLine := by rw [sizeLine_eq]; exact h
theorem line_lt {n : Nat} (h : n < 16777216) : n < sizeLine := by rw [sizeLine_eq]; exact h
theorem q_tup {es : List Expr} {t : DA} {k : Nat} (h : QA X W es t) : QE X W (.Tuple es k pos) (dTup t) :=
  ⟨PE_mono (pe_tup h.pa) fun σ H Q ⟨s, L, Qd, Ed, hs, hr, q, hq, lp⟩ => liftA_bind hs hr lp q fun ds L1 vs H1 ⟨ql, q1⟩ r1 hr1 k1 hs1 t1 lp1 =>
    ⟨by rw [← r1.length]; exact line_of ql, fun p hp => hq _ L1 _ _ q1 ⟨p, vs, rfl, .inl (.inl upd_same), RepL.tk (HR.tk_new hp) _ _ r1⟩ (hr1.laid hp).1 (k1.trans (hr1.laid hp).2)⟩⟩
theorem q_lst {es : List Expr} {t : DA} (h : QA X W es t) : QE X W (.List es pos) (dLst t) :=
  ⟨PE_mono (pe_lst h.pa) fun σ H Q ⟨s, L, Qd, Ed, hs, hr, q, hq, lp⟩ => liftA_bind hs hr lp q fun ds L1 vs H1 ⟨ql, q1⟩ r1 hr1 k1 hs1 t1 lp1 =>
    ⟨by rw [← r1.length]; exact line_of ql, fun p hp => hq _ _ _ _ (q1 p (hr1.free hp)) rfl (hr1.new hp r1).1 (k1.trans (hr1.new hp r1).2)⟩⟩
abbrev RDA := List D → DH → DK → Prop
def CallD (K : PySem.W.Frag) (r : List V → Hp → VK → Prop) (rD : RDA) : Prop := ∀ (H : Hp) (L : DH) (ds : List D) (xs : List V) (Qd : DK) (Q : VK), RepL K H ds xs → HR K H L → rD ds L Qd →
  (∀ d' L' v H', Qd d' L' → Rep K H' d' v → HR K H' L' → Kp H L H' L' → Q v H') → r xs H Q
def dCB (rD : RDA) (t : DA) : DE := fun s L Q E => t s L (fun ds L1 => rD ds L1 Q) E
theorem lift_cb {M : KM} {r : List V → Hp → VK → Prop} {rD : RDA} {t : DA} (h : CallD M.K r rD) {σ : St} {H : Hp} {Q : VK} (q : liftE M W (dCB rD t) σ H Q) : tCB r (liftA M W t) σ H Q := by
  obtain ⟨s, L, Qd, Ed, hs, hr, q, hq, lp⟩ := q
  exact liftA_bind hs hr lp q fun ds L1 vs H1 q1 r1 hr1 k1 hs1 t1 lp1 => h H1 L1 ds vs Qd Q r1 hr1 q1 fun d' L' v H' a b c k => hq d' L' v H' a b c (k1.trans k)
theorem CallD.or {K : PySem.W.Frag} {r r' : List V → Hp → VK → Prop} {rD rD' : RDA} (h : CallD K r rD) (h' : CallD K r' rD') : CallD K (fun x H Q => r x H Q ∨ r' x H Q) (fun x L Q => rD x L Q ∨ rD' x L Q) :=
  fun H L d x Qd Q a c q k => q.elim (fun z => .inl (h H L d x Qd Q a c z k)) fun z => .inr (h' H L d x Qd Q a c z k)
theorem q_callB {x : Str} {id : String} {r : List V → Hp → VK → Prop} {rD : RDA} {e : Expr} {es : List Expr} {p : Pos} {t : DA} (hc : CallR X (.builtin id) r) (h : CallD X.K r rD) (hg : Gl X x) (hm : X.mg x = none) (hv : bootBuiltins x = some (.builtin id)) (ha : QA X W (e :: es) t)
    (hn : x ≠ "__name__" := by decide) (hdb : (x == ("__debug__" : Str)) = false := by decide) (he : starEach (e :: es) X.env = (false, eval e X.env) :: starEach es X.env := by rfl) (hpl : (backTo pos (starEach es X.env)).any (·.1) = false := by rfl) : QE X W (.Call (.Name x p) (e :: es) [] pos) (dCB rD t) :=
  ⟨PE_mono (pe_callB hc hg hm hv ha.pa hn hdb he hpl) fun _ _ _ q => lift_cb h q⟩
theorem q_callTy {x : Str} {T : String} {r : List V → Hp → VK → Prop} {rD : RDA} {e : Expr} {es : List Expr} {p : Pos} {t : DA} (hc : CallR X (.type T) r) (h : CallD X.K r rD) (hg : Gl X x) (hm : X.mg x = none) (hv : bootBuiltins x = some (.type T)) (ha : QA X W (e :: es) t)
    (hn : x ≠ "__name__" := by decide) (hdb : (x == ("__debug__" : Str)) = false := by decide) (he : starEach (e :: es) X.env = (false, eval e X.env) :: starEach es X.env := by rfl) (hpl : (backTo pos (starEach es X.env)).any (·.1) = false := by rfl) : QE X W (.Call (.Name x p) (e :: es) [] pos) (dCB rD t) :=
  ⟨PE_mono (pe_callTy hc hg hm hv ha.pa hn hdb he hpl) fun _ _ _ q => lift_cb h q⟩
end
end D2

set_option Elab.async false
set_option linter.all false
set_option maxRecDepth 100000
set_option maxHeartbeats 1000000
namespace D2
open PySem PySem.Spec L2
/-! ### tests -/
section
variable {X : Cx} {W : WX} {pos : Pos} {a b c : Expr} {da db dc : DE} {ta tb : DT} {rest : List Expr}
def dTest (de : DE) : DT := fun s L Q E => de s L (fun d L1 => ∃ k, d = .bl k ∧ Q k L1) E
theorem liftE_to_tB {M : KM} {σ : St} {H : Hp} {Q : Bool → Hp → Prop} (q : liftT M W (dTest da) σ H Q) : tB (liftE M W da) σ H Q := by
  obtain ⟨s, L, Qd, Ed, hs, hr, q, hq, lp⟩ := q
  refine liftE_bind hs hr lp q fun d L1 x H1 ⟨k, e, q1⟩ r1 hr1 k1 hs1 t1 lp1 => ?_
  subst e
  cases (show x = _ from r1)
  exact ⟨k, rfl, hq k L1 H1 q1 hr1 k1⟩
theorem qt_val {e : Expr} {de : DE} (h : QE X W e de) (he : ∀ whole, isTrue e X.env whole = (do let v ← whole; standAt e.pos; holding [v] (truthy v)) := by intro _; rfl) : QT X W e (dTest de) :=
  ⟨PT_mono (pt_val h.pe he) fun _ _ _ q => liftE_to_tB q⟩
/-- a comparison as a test -/
theorem qt_cmp {op : CmpOp} {r : R2} {rD : RD2} (ho : OpR X (compareOp op) r) (h : OpD X.K r rD) (ha : QE X W a da) (hb : QE X W b db) (hm : behindInMarks op b = false) : QT X W (.Compare a [op] [b] pos) (dTest (dOp rD da db)) :=
  ⟨PT_mono (pt_cmpR ho ha.pe hb.pe hm) fun σ H Q q => by
    obtain ⟨s, L, Qd, Ed, hs, hr, q, hq, lp⟩ := q
    refine lift_op h (Q := fun x H' => ∃ k, x = .bl k ∧ Q k H') ⟨s, L, _, Ed, hs, hr, q, fun d L1 x H1 ⟨k, e, q1⟩ r1 hr1 k1 => ?_, lp⟩
    subst e
    cases (show x = _ from r1)
    exact ⟨k, rfl, hq k L1 H1 q1 hr1 k1⟩⟩
def dAnd (ta tb : DT) : DT := fun s L Q E => ta s L (fun k L1 => if k = true then tb s L1 Q E else Q false L1) E
def dOr (ta tb : DT) : DT := fun s L Q E => ta s L (fun k L1 => if k = true then Q true L1 else tb s L1 Q E) E
def dNot (ta : DT) : DT := fun s L Q E => ta s L (fun k L1 => Q (!k) L1) E
theorem qw_and1 (ha : QT X W a ta) : QW X W (.BoolOp .And [a] pos) ta := ⟨pw_and1 ha.pt⟩
theorem qw_or1 (ha : QT X W a ta) : QW X W (.BoolOp .Or [a] pos) ta := ⟨pw_or1 ha.pt⟩
theorem qw_and (ha : QT X W a ta) (hb : QW X W (.BoolOp .And (b :: rest) pos) tb) : QW X W (.BoolOp .And (a :: b :: rest) pos) (dAnd ta tb) :=
  ⟨PW_mono (pw_and ha.pt hb.pw) fun σ H Q ⟨s, L, Qd, Ed, hs, hr, q, hq, lp⟩ => liftT_bind hs hr lp q fun k L1 H1 q1 hr1 k1 hs1 t1 lp1 => by
    cases k with
    | true => exact (if_pos rfl).mpr ⟨s, L1, Qd, Ed, hs1, hr1, (if_pos rfl).mp q1, fun b L2 H2 q2 r2 k2 => hq b L2 H2 q2 r2 (k1.trans k2), lp1⟩
    | false => exact (if_neg Bool.false_ne_true).mpr (hq false L1 H1 ((if_neg Bool.false_ne_true).mp q1) hr1 k1)⟩
theorem qw_or (ha : QT X W a ta) (hb : QW X W (.BoolOp .Or (b :: rest) pos) tb) : QW X W (.BoolOp .Or (a :: b :: rest) pos) (dOr ta tb) :=
  ⟨PW_mono (pw_or ha.pt hb.pw) fun σ H Q ⟨s, L, Qd, Ed, hs, hr, q, hq, lp⟩ => liftT_bind hs hr lp q fun k L1 H1 q1 hr1 k1 hs1 t1 lp1 => by
    cases k with
    | false => exact (if_neg Bool.false_ne_true).mpr ⟨s, L1, Qd, Ed, hs1, hr1, (if_neg Bool.false_ne_true).mp q1, fun b L2 H2 q2 r2 k2 => hq b L2 H2 q2 r2 (k1.trans k2), lp1⟩
    | true => exact (if_pos rfl).mpr (hq true L1 H1 ((if_pos rfl).mp q1) hr1 k1)⟩
theorem QW.qt {e : Expr} (h : QW X W e ta) : QT X W e ta := ⟨PW.pt h.pw⟩
theorem qt_not (ha : QT X W a ta) : QT X W (.UnaryOp .Not a pos) (dNot ta) :=
  ⟨PT_mono (pt_not ha.pt) fun σ H Q ⟨s, L, Qd, Ed, hs, hr, q, hq, lp⟩ => liftT_bind hs hr lp q fun k L1 H1 q1 hr1 k1 hs1 t1 lp1 => hq _ L1 H1 q1 hr1 k1⟩
/-! values of and, or, not over bools -/
def dAndV (da db : DE) : DE := fun s L Q E => da s L (fun d L1 => ∃ k, d = .bl k ∧ if k = true then db s L1 Q E else Q (.bl false) L1) E
def dOrV (da db : DE) : DE := fun s L Q E => da s L (fun d L1 => ∃ k, d = .bl k ∧ if k = true then Q (.bl true) L1 else db s L1 Q E) E
def dNotV (da : DE) : DE := fun s L Q E => da s L (fun d L1 => ∃ k, d = .bl k ∧ Q (.bl (!k)) L1) E
theorem qe_one {op : BoolOp} (h : QE X W a da) : QE X W (.BoolOp op [a] pos) da := ⟨pe_one h.pe⟩
theorem qe_and (ha : QE X W a da) (hb : QE X W (.BoolOp .And (b :: rest) pos) db) : QE X W (.BoolOp .And (a :: b :: rest) pos) (dAndV da db) :=
  ⟨PE_mono (pe_and ha.pe hb.pe) fun σ H Q ⟨s, L, Qd, Ed, hs, hr, q, hq, lp⟩ => liftE_bind hs hr lp q fun d L1 x H1 ⟨k, e, q1⟩ r1 hr1 k1 hs1 t1 lp1 => by
    subst e
    cases (show x = _ from r1)
    refine ⟨k, rfl, ?_⟩
    cases k with
    | true => exact (if_pos rfl).mpr ⟨s, L1, Qd, Ed, hs1, hr1, (if_pos rfl).mp q1, fun b L2 v H2 q2 r r2 k2 => hq b L2 v H2 q2 r r2 (k1.trans k2), lp1⟩
    | false => exact (if_neg Bool.false_ne_true).mpr (hq _ L1 _ H1 ((if_neg Bool.false_ne_true).mp q1) rfl hr1 k1)⟩
theorem qe_or (ha : QE X W a da) (hb : QE X W (.BoolOp .Or (b :: rest) pos) db) : QE X W (.BoolOp .Or (a :: b :: rest) pos) (dOrV da db) :=
  ⟨PE_mono (pe_or ha.pe hb.pe) fun σ H Q ⟨s, L, Qd, Ed, hs, hr, q, hq, lp⟩ => liftE_bind hs hr lp q fun d L1 x H1 ⟨k, e, q1⟩ r1 hr1 k1 hs1 t1 lp1 => by
    subst e
    cases (show x = _ from r1)
    refine ⟨k, rfl, ?_⟩
    cases k with
    | false => exact (if_neg Bool.false_ne_true).mpr ⟨s, L1, Qd, Ed, hs1, hr1, (if_neg Bool.false_ne_true).mp q1, fun b L2 v H2 q2 r r2 k2 => hq b L2 v H2 q2 r r2 (k1.trans k2), lp1⟩
    | true => exact (if_pos rfl).mpr (hq _ L1 _ H1 ((if_pos rfl).mp q1) rfl hr1 k1)⟩
theorem qe_not (ha : QE X W a da) : QE X W (.UnaryOp .Not a pos) (dNotV da) :=
  ⟨PE_mono (pe_not ha.pe) fun σ H Q ⟨s, L, Qd, Ed, hs, hr, q, hq, lp⟩ => liftE_bind hs hr lp q fun d L1 x H1 ⟨k, e, q1⟩ r1 hr1 k1 hs1 t1 lp1 => by
    subst e
    cases (show x = _ from r1)
    exact ⟨k, rfl, hq _ L1 _ H1 q1 rfl hr1 k1⟩⟩
def dIfE (t : DT) (da db : DE) : DE := fun s L Q E => t s L (fun k L1 => if k = true then da s L1 Q E else db s L1 Q E) E
theorem qe_if (ht : QT X W c ta) (ha : QE X W a da) (hb : QE X W b db) : QE X W (.IfExp c a b pos) (dIfE ta da db) :=
  ⟨PE_mono (pe_ifExp ht.pt ha.pe hb.pe) fun σ H Q ⟨s, L, Qd, Ed, hs, hr, q, hq, lp⟩ => liftT_bind hs hr lp q fun k L1 H1 q1 hr1 k1 hs1 t1 lp1 => by
    cases k with
    | true => exact (if_pos rfl).mpr ⟨s, L1, Qd, Ed, hs1, hr1, (if_pos rfl).mp q1, fun b L2 v H2 q2 r r2 k2 => hq b L2 v H2 q2 r r2 (k1.trans k2), lp1⟩
    | false => exact (if_neg Bool.false_ne_true).mpr ⟨s, L1, Qd, Ed, hs1, hr1, (if_neg Bool.false_ne_true).mp q1, fun b L2 v H2 q2 r r2 k2 => hq b L2 v H2 q2 r r2 (k1.trans k2), lp1⟩⟩
/-- a chain of two comparisons -/
def dChain (r r' : RD2) (da db dc : DE) : DE := fun s L Q E => da s L (fun x L1 => db s L1 (fun y L2 => r x y L2 fun z L3 => ∃ k, z = .bl k ∧ if k = true then dc s L3 (fun u L4 => r' y u L4 Q) E else Q (.bl false) L3) E) E
theorem lift_chain {r r' : R2} {rD rD' : RD2} {M : KM} (h : OpD M.K r rD) (h' : OpD M.K r' rD') {σ : St} {H : Hp} {Q : VK} (q : liftE M W (dChain rD rD' da db dc) σ H Q) : tChain r r' (liftE M W da) (liftE M W db) (liftE M W dc) σ H Q := by
  obtain ⟨s, L, Qd, Ed, hs, hr, q, hq, lp⟩ := q
  refine liftE_bind hs hr lp q fun d L1 x H1 q1 r1 hr1 k1 hs1 t1 lp1 => ?_
  refine liftE_bind hs1 hr1 lp1 q1 fun e L2 y H2 q2 r2 hr2 k2 hs2 t2 lp2 => ?_
  refine h H2 L2 d e x y _ _ (Rep.tk t2 _ _ r1) r2 hr2 q2 fun d' L3 z H3 ⟨k, ek, q3⟩ r3 hr3 k3 => ?_
  subst ek
  cases (show z = _ from r3)
  refine ⟨k, rfl, ?_⟩
  have t3 := k3.tk hr2
  cases k with
  | false => exact (if_neg Bool.false_ne_true).mpr (hq _ L3 _ H3 ((if_neg Bool.false_ne_true).mp q3) rfl hr3 ((k1.trans k2).trans k3))
  | true =>
    refine (if_pos rfl).mpr ?_
    refine liftE_bind (hs2.tk t3) hr3 (lp2.after k3) ((if_pos rfl).mp q3) fun u L4 v H4 q4 r4 hr4 k4 hs4 t4 lp4 => ?_
    exact h' H4 L4 e u y v Qd Q (Rep.tk t4 _ _ (Rep.tk t3 _ _ r2)) r4 hr4 q4 fun d' L' v H' a b c k => hq d' L' v H' a b c (((k1.trans k2).trans (k3.trans k4)).trans k)
theorem q_chain {op op' : CmpOp} {r r' : R2} {rD rD' : RD2} (ho : OpR X (compareOp op) r) (ho' : OpR X (compareOp op') r') (h : OpD X.K r rD) (h' : OpD X.K r' rD') (ha : QE X W a da) (hb : QE X W b db) (hc : QE X W c dc)
    (hm : lastMarks [op, op'] [b, c] = false := by with_unfolding_all rfl) : QE X W (.Compare a [op, op'] [b, c] pos) (dChain rD rD' da db dc) :=
  ⟨PE_mono (pe_chain ho ho' ha.pe hb.pe hc.pe hm) fun _ _ _ q => lift_chain h h' q⟩
theorem qt_chain {op op' : CmpOp} {r r' : R2} {rD rD' : RD2} (ho : OpR X (compareOp op) r) (ho' : OpR X (compareOp op') r') (h : OpD X.K r rD) (h' : OpD X.K r' rD') (ha : QE X W a da) (hb : QE X W b db) (hc : QE X W c dc)
    (hm : lastMarks [op, op'] [b, c] = false := by with_unfolding_all rfl) : QT X W (.Compare a [op, op'] [b, c] pos) (dTest (dChain rD rD' da db dc)) :=
  ⟨PT_mono (pt_chain ho ho' ha.pe hb.pe hc.pe hm) fun σ H Q q => by
    obtain ⟨s, L, Qd, Ed, hs, hr, q, hq, lp⟩ := q
    refine lift_chain h h' (Q := fun x H' => ∃ k, x = .bl k ∧ Q k H') ⟨s, L, _, Ed, hs, hr, q, fun d L1 x H1 ⟨k, e, q1⟩ r1 hr1 k1 => ?_, lp⟩
    subst e
    cases (show x = _ from r1)
    exact ⟨k, rfl, hq k L1 H1 q1 hr1 k1⟩⟩
end

/-! ### statements -/
structure DEnds where
  nx : DSt → DH → Prop
  rt : DK
  bk : DSt → DH → Prop
  ct : DSt → DH → Prop
  ex : Str → List (Str × D) → DSt → DH → Prop
abbrev DS := DEnds → DSt → DH → Prop
def PostS (K : PySem.W.Frag) (H : Hp) (L : DH) (P : DSt → DH → Prop) (Q : St → Hp → Prop) : Prop := ∀ s' L' σ' H', P s' L' → SR K H' s' σ' → HR K H' L' → Kp H L H' L' → Q σ' H'
theorem PostS.after {K : PySem.W.Frag} {H H1 : Hp} {L L1 : DH} {P : DSt → DH → Prop} {Q : St → Hp → Prop} (h : PostS K H L P Q) (k : Kp H L H1 L1) : PostS K H1 L1 P Q := fun s' L' σ' H' a b c d => h s' L' σ' H' a b c (k.trans d)
structure Post (M : KM) (W : WX) (H : Hp) (L : DH) (dn : DEnds) (Dn : Ends) : Prop where
  nx : PostS M.K H L dn.nx Dn.nx
  rt : ∀ d L' v H', dn.rt d L' → Rep M.K H' d v → HR M.K H' L' → Kp H L H' L' → Dn.rt v H'
  bk : PostS M.K H L dn.bk Dn.bk
  ct : PostS M.K H L dn.ct Dn.ct
  ex : ∀ C fs cls dx s' L' σ' H', dn.ex C fs s' L' → XRep M H' C fs cls dx → SR M.K H' s' σ' → HR M.K H' L' → Kp H L H' L' → W cls dx σ' H'
def liftS (M : KM) (W : WX) (ds : DS) : TS := fun Dn σ H => ∃ s L dn, SR M.K H s σ ∧ HR M.K H L ∧ ds dn s L ∧ Post M W H L dn Dn
structure QS (X : Cx) (W : WX) (st : Stmt) (ds : DS) : Prop where
  ps : PS X st (liftS X.km W ds)
structure QSs (X : Cx) (W : WX) (st : List Stmt) (ds : DS) : Prop where
  ps : PSs X st (liftS X.km W ds)
section
variable {M : KM} {W : WX} {H H1 : Hp} {L L1 : DH} {dn : DEnds} {Dn : Ends} {s : DSt} {σ : St}
theorem Post.after (h : Post M W H L dn Dn) (k : Kp H L H1 L1) : Post M W H1 L1 dn Dn :=
  ⟨h.nx.after k, fun d L' v H' a b c e => h.rt d L' v H' a b c (k.trans e), h.bk.after k, h.ct.after k, fun C fs cls dx s' L' σ' H' a b c d e => h.ex C fs cls dx s' L' σ' H' a b c d (k.trans e)⟩
theorem Post.lp (h : Post M W H L dn Dn) (hs : SR M.K H s σ) (hr : HR M.K H L) : LP M W σ H L (fun C fs L' => dn.ex C fs s L') :=
  ⟨fun C fs L' cls dx H' e x r k => h.ex C fs cls dx s L' σ H' e x (hs.tk (k.tk hr)) r k⟩
end
def sNext : DS := fun dn s L => dn.nx s L
def sSeq (a b : DS) : DS := fun dn s L => a { dn with nx := b dn } s L
def sBreak : DS := fun dn s L => dn.bk s L
def sCont : DS := fun dn s L => dn.ct s L
def xOf (dn : DEnds) (s : DSt) : XD := fun C fs L => dn.ex C fs s L
def sDrop (de : DE) : DS := fun dn s L => de s L (fun _ L1 => dn.nx s L1) (xOf dn s)
def sRet (de : DE) : DS := fun dn s L => de s L dn.rt (xOf dn s)
def sRetN : DS := fun dn _ L => dn.rt .non L
def sIf (t : DT) (a b : DS) : DS := fun dn s L => t s L (fun k L1 => if k = true then a dn s L1 else b dn s L1) (xOf dn s)
def sNever : DS := fun _ _ _ => False
section
variable {X : Cx} {W : WX} {pos : Pos} {st : Stmt} {rest : List Stmt} {da db : DS} {de : DE} {dt : DT} {e c : Expr} {la lb : List Stmt}
theorem qss_nil : QSs X W [] sNext := ⟨PSs_mono pss_nil fun Dn σ H ⟨s, L, dn, hs, hr, h, p⟩ => p.nx s L σ H h hs hr .refl⟩
theorem qss_one (h : QS X W st da) : QSs X W [st] da := ⟨pss_one h.ps⟩
theorem lift_seq {M : KM} {Dn : Ends} {σ : St} {H : Hp} (q : liftS M W (sSeq da db) Dn σ H) : tSeq (liftS M W da) (liftS M W db) Dn σ H := by
  obtain ⟨s, L, dn, hs, hr, h, p⟩ := q
  exact ⟨s, L, _, hs, hr, h, ⟨fun s' L' σ' H' a b c d => ⟨s', L', dn, b, c, a, p.after d⟩, p.rt, p.bk, p.ct, p.ex⟩⟩
theorem qss_cons (h1 : QS X W st da) (h2 : QSs X W rest db) : QSs X W (st :: rest) (sSeq da db) := ⟨PSs_mono (pss_cons h1.ps h2.ps) fun _ _ _ q => lift_seq q⟩
theorem qs_pass : QS X W (.Pass pos) sNext := ⟨PS_mono ps_pass fun Dn σ H ⟨s, L, dn, hs, hr, h, p⟩ => p.nx s L σ H h hs hr .refl⟩
theorem qs_break : QS X W (.Break pos) sBreak := ⟨PS_mono ps_break fun Dn σ H ⟨s, L, dn, hs, hr, h, p⟩ => p.bk s L σ H h hs hr .refl⟩
theorem qs_continue : QS X W (.Continue pos) sCont := ⟨PS_mono ps_continue fun Dn σ H ⟨s, L, dn, hs, hr, h, p⟩ => p.ct s L σ H h hs hr .refl⟩
theorem qs_expr (he : QE X W e de) (hs : swapsWith e none pos.line X.env = pure false := by rfl) : QS X W (.Expr e pos) (sDrop de) :=
  ⟨PS_mono (ps_expr he.pe hs) fun Dn σ H ⟨s, L, dn, hs, hr, h, p⟩ => liftE_bind hs hr (p.lp hs hr) h fun d L1 x H1 q1 r1 hr1 k1 hs1 t1 lp1 => p.nx s L1 σ H1 q1 hs1 hr1 k1⟩
theorem qs_ret (he : QE X W e de) : QS X W (.Return (some e) pos) (sRet de) :=
  ⟨PS_mono (ps_ret he.pe) fun Dn σ H ⟨s, L, dn, hs, hr, h, p⟩ => liftE_bind hs hr (p.lp hs hr) h fun d L1 x H1 q1 r1 hr1 k1 hs1 t1 lp1 => p.rt d L1 x H1 q1 r1 hr1 k1⟩
theorem qs_retN : QS X W (.Return none pos) sRetN :=
  ⟨PS_mono ps_retN fun Dn σ H ⟨s, L, dn, hs, hr, h, p⟩ => p.rt .non L .non H h rfl hr .refl⟩
theorem qs_if (hc : QT X W c dt) (ha : QSs X W la da) (hb : QSs X W lb db) : QS X W (.If c la lb pos) (sIf dt da db) :=
  ⟨PS_mono (ps_if hc.pt ha.ps hb.ps) fun Dn σ H ⟨s, L, dn, hs, hr, h, p⟩ => liftT_bind hs hr (p.lp hs hr) h fun k L1 H1 q1 hr1 k1 hs1 t1 lp1 => by
    cases k with
    | true => exact (if_pos rfl).mpr ⟨s, L1, dn, hs1, hr1, (if_pos rfl).mp q1, p.after k1⟩
    | false => exact (if_neg Bool.false_ne_true).mpr ⟨s, L1, dn, hs1, hr1, (if_neg Bool.false_ne_true).mp q1, p.after k1⟩⟩
theorem qs_never : QS X W st sNever := ⟨PS_mono ps_never fun Dn σ H ⟨s, L, dn, hs, hr, h, p⟩ => h⟩
theorem qss_never : QSs X W la sNever := ⟨PSs_mono pss_never fun Dn σ H ⟨s, L, dn, hs, hr, h, p⟩ => h⟩
end
/-! targets -/
abbrev DG := D → DSt → DH → (DSt → DH → Prop) → XD → Prop
def liftG (K : PySem.W.Frag) (g : DG) (G : TG) : Prop := ∀ (d : D) (v : V) (s : DSt) (σ : St) (H : Hp) (L : DH) (P : DSt → DH → Prop) (Q : St → Hp → Prop), Rep K H d v → SR K H s σ → HR K H L → g d s L P (fun _ _ _ => False) →
  PostS K H L P Q → G v σ H Q
structure QG (X : Cx) (t : Expr) (g : DG) : Prop where
  pg : ∃ G, PG X t G ∧ liftG X.K g G
def liftGs (K : PySem.W.Frag) (g : List D → DSt → DH → (DSt → DH → Prop) → Prop) (G : TGs) : Prop := ∀ (ds : List D) (vs : List V) (s : DSt) (σ : St) (H : Hp) (L : DH) (P : DSt → DH → Prop) (Q : St → Hp → Prop), RepL K H ds vs → SR K H s σ → HR K H L → g ds s L P →
  PostS K H L P Q → G vs σ H Q
structure QGs (X : Cx) (t : List Expr) (g : List D → DSt → DH → (DSt → DH → Prop) → Prop) : Prop where
  pg : ∃ G, PGs X t G ∧ liftGs X.K g G
def gdName (i : Nat) : DG := fun d s L P _ => P (s.set i (some d)) L
def gdNil : List D → DSt → DH → (DSt → DH → Prop) → Prop := fun ds s L P => ds = [] ∧ P s L
def gdCons (g : DG) (r : List D → DSt → DH → (DSt → DH → Prop) → Prop) : List D → DSt → DH → (DSt → DH → Prop) → Prop := fun ds s L P => match ds with
  | [] => False
  | d :: ds => g d s L (fun s1 L1 => r ds s1 L1 P) (fun _ _ _ => False)
def gdTup (n : Nat) (g : List D → DSt → DH → (DSt → DH → Prop) → Prop) : DG := fun d s L P _ => match d with
  | .tup ds => ds.length = n ∧ g ds s L P
  | _ => False
abbrev SetD := D → D → D → DH → (DH → Prop) → Prop
def SetOk (K : PySem.W.Frag) (t : TSet) (td : SetD) : Prop := ∀ (o i d : D) (vo vi v : V) (H : Hp) (L : DH) (P : DH → Prop) (Q : Hp → Prop), Rep K H o vo → Rep K H i vi → Rep K H d v → HR K H L → td o i d L P →
  (∀ L' H', P L' → HR K H' L' → Kp H L H' L' → Q H') → t vo vi v H Q
def gdSub (do_ di : DE) (td : SetD) : DG := fun d s L P _ => do_ s L (fun o L1 => di s L1 (fun i L2 => td o i d L2 fun L3 => P s L3) (fun _ _ _ => False)) (fun _ _ _ => False)
section
variable {X : Cx} {pos : Pos}
theorem qg_name (i : Nat) {x : Str} (hN : X.N.Nodup) (hi : X.N[i]? = some x := by rfl) (hx : Loc X.env.scope x := by first | exact Or.inl rfl | exact Or.inr rfl) (hf : X.fn x = true ∨ X.env.scope.names.lookup x = some .local := by first | exact .inl rfl | exact .inr rfl) : QG X (.Name x pos) (gdName i) :=
  ⟨_, pg_name hN hi hx hf, fun d v s σ H L P Q r hs hr h p => p _ L _ H h (hs.set r i) hr .refl⟩
theorem qgs_nil : QGs X [] gdNil := ⟨_, pgs_nil, fun ds vs s σ H L P Q r hs hr h p => by
  obtain ⟨rfl, h⟩ := h
  exact ⟨r, p s L σ H h hs hr .refl⟩⟩
theorem qgs_cons {e : Expr} {es : List Expr} {g : DG} {r : List D → DSt → DH → (DSt → DH → Prop) → Prop} (h1 : QG X e g) (h2 : QGs X es r) (hs : (assignEach (e :: es) X.env).map (·.2) = assign e X.env :: (assignEach es X.env).map (·.2) := by rfl) : QGs X (e :: es) (gdCons g r) := by
  obtain ⟨G, hG, lG⟩ := h1.pg
  obtain ⟨G2, hG2, lG2⟩ := h2.pg
  refine ⟨_, pgs_cons hG hG2 hs, fun ds vs s σ H L P Q r hs hr h p => ?_⟩
  cases ds with
  | nil => exact h.elim
  | cons d ds =>
    obtain ⟨v, vr, e, rv, rr⟩ := r
    refine ⟨v, vr, e, lG d v s σ H L _ _ rv hs hr h fun s1 L1 σ1 H1 q hs1 hr1 k1 => ?_⟩
    exact lG2 ds vr s1 σ1 H1 L1 P Q (RepL.tk (k1.tk hr) _ _ rr) hs1 hr1 q (p.after k1)
theorem qg_tup {es : List Expr} {k n : Nat} {g : List D → DSt → DH → (DSt → DH → Prop) → Prop} (hc : X.calm = true) (h : QGs X es g) (hn : (assignEach es X.env).length = n := by rfl) (hst : (assignEach es X.env).findIdx? (·.1) = none := by rfl) : QG X (.Tuple es k pos) (gdTup n g) := by
  obtain ⟨G, hG, lG⟩ := h.pg
  refine ⟨_, pg_tup hc hG hn hst, fun d v s σ H L P Q r hs hr h p => ?_⟩
  cases d with
  | tup ds =>
    obtain ⟨a, vs, e, sq, rl⟩ := r
    exact ⟨a, vs, e, sq, by rw [← rl.length]; exact h.1, lG ds vs s σ H L P Q rl hs hr h.2 p⟩
  | _ => exact h.elim
theorem qg_sub {o i : Expr} {do_ di : DE} {t : TSet} {td : SetD} (ho : QE X (fun _ _ _ _ => False) o do_) (hi : QE X (fun _ _ _ _ => False) i di) (hs : PSet X t) (hd : SetOk X.K t td)
    (ha : ∀ v, assign (.Subscript o i pos) X.env v = (do
      let ov ← holding [v] (eval o X.env)
      let iv ← holding [v, ov] (eval i X.env)
      standAt pos
      holding [v, ov, iv] (setItem ov iv v)
      release [v, ov, iv] []) := by intro _; rfl) : QG X (.Subscript o i pos) (gdSub do_ di td) := by
  have noP : ∀ {M : KM} {σ : St} {H : Hp} {L : DH}, LP M (fun _ _ _ _ => False) σ H L (fun _ _ _ => False) := ⟨fun _ _ _ _ _ _ h => h.elim⟩
  refine ⟨_, pg_sub ho.pe hi.pe hs ha, fun d v s σ H L P Q r hS hr h p => ?_⟩
  refine liftE_bind hS hr noP h fun o' L1 x H1 q1 r1 hr1 k1 hs1 t1 lp1 => ?_
  refine liftE_bind hs1 hr1 noP q1 fun i' L2 y H2 q2 r2 hr2 k2 hs2 t2 lp2 => ?_
  exact hd o' i' d x y v H2 L2 _ _ (Rep.tk t2 _ _ r1) r2 (Rep.tk t2 _ _ (Rep.tk t1 _ _ r)) hr2 q2 fun L3 H3 q3 hr3 k3 => p s L3 σ H3 q3 (hs2.tk (k3.tk hr2)) hr3 ((k1.trans k2).trans k3)
end
def sAsg (de : DE) (g : DG) : DS := fun dn s L => de s L (fun d L1 => g d s L1 dn.nx (fun _ _ _ => False)) (xOf dn s)
section
variable {X : Cx} {W : WX} {pos : Pos}
theorem qs_asg {tg e : Expr} {de : DE} {g : DG} (he : QE X W e de) (hg : QG X tg g) (hs : swapsWithSole [tg] e pos.line X.env = pure false := by rfl) (hw : swappedStores [tg] e X.env = pure none := by rfl) (h1 : (assignEach [tg] X.env).map (·.2) = [assign tg X.env] := by rfl) : QS X W (.Assign [tg] e pos) (sAsg de g) := by
  obtain ⟨G, hG, lG⟩ := hg.pg
  exact ⟨PS_mono (ps_asg he.pe hG hs hw h1) fun Dn σ H ⟨s, L, dn, hs, hr, h, p⟩ => liftE_bind hs hr (p.lp hs hr) h fun d L1 x H1 q1 r1 hr1 k1 hs1 t1 lp1 => lG d x s σ H1 L1 _ _ r1 hs1 hr1 q1 (p.nx.after k1)⟩
/-- a name assigned -/
theorem qs_set {i : Nat} {x : Str} {e : Expr} {de : DE} {pos' : Pos} (hN : X.N.Nodup) (he : QE X W e de) (hi : X.N[i]? = some x := by rfl) (hx : Loc X.env.scope x := by first | exact Or.inl rfl | exact Or.inr rfl) (hs : swapsWith e (some (.Name x pos')) pos.line X.env = pure false := by rfl)
    (hf : X.fn x = true ∨ X.env.scope.names.lookup x = some .local := by first | exact .inl rfl | exact .inr rfl) : QS X W (.Assign [.Name x pos'] e pos) (sAsg de (gdName i)) :=
  ⟨PS_mono (ps_set hN hi hx he.pe hs hf) fun Dn σ H ⟨s, L, dn, hs, hr, h, p⟩ => liftE_bind hs hr (p.lp hs hr) h fun d L1 x H1 q1 r1 hr1 k1 hs1 t1 lp1 => p.nx _ L1 _ H1 q1 (hs1.set r1 i) hr1 k1⟩
end
end D2

set_option Elab.async false
set_option linter.all false
set_option maxRecDepth 100000
set_option maxHeartbeats 1000000
namespace D2
open PySem PySem.Spec PyProof.Rows L2
/-! ### defs and calls -/
abbrev SpD := List D → DH → DK → XD → Prop
def liftSp (M : KM) (sp : SpD) : Sp := fun vs H Q E => ∃ ds L Qd Ed, RepL M.K H ds vs ∧ HR M.K H L ∧ sp ds L Qd Ed ∧
  (∀ d L' v H', Qd d L' → Rep M.K H' d v → HR M.K H' L' → Kp H L H' L' → Q v H') ∧
  (∀ C fs L' cls dx H', Ed C fs L' → XRep M H' C fs cls dx → HR M.K H' L' → Kp H L H' L' → E cls dx H')
def dCall (sp : SpD) (t : DA) : DE := fun s L Q E => t s L (fun ds L1 => sp ds L1 Q E) E
/-- what a def's body is to reach: L may be lessened -/
def fnEnds (Q : DK) (E : XD) : DEnds where
  nx := fun _ L' => ∃ L2, Le L2 L' ∧ Q .non L2
  rt := fun d L' => ∃ L2, Le L2 L' ∧ Q d L2
  bk := fun _ _ => False
  ct := fun _ _ => False
  ex := fun C fs _ L' => ∃ L2, Le L2 L' ∧ E C fs L2
def wE (E : XK) : WX := fun cls d _ H => E cls d H
section
variable {X : Cx} {W : WX} {pos : Pos}
theorem q_call {k : Nat} {f : Addr} {fd : FuncData} {ps : List Str} {sp : SpD} {x : Str} {p : Pos} {e : Expr} {es : List Expr} {t : DA} (F : FnOk X.prog X.w X.K X.mg X.base (L2.CX X.prog X.w) k f fd ps (liftSp X.km sp)) (hr : Room k X.A) (hm : X.mg x = some (.ref f)) (hk : PySem.W.keepIn X.K (.ref f) = true)
    (hb : Binds X.K fd ps []) (tk : Takes X W) (ha : QA X W (e :: es) t) (hg : Gl X x := by rfl) (hdb : (x == ("__debug__" : Str)) = false := by decide) (he : starEach (e :: es) X.env = (false, eval e X.env) :: starEach es X.env := by rfl) (hpl : (backTo pos (starEach es X.env)).any (·.1) = false := by rfl) :
    QE X W (.Call (.Name x p) (e :: es) [] pos) (dCall sp t) :=
  ⟨PE_mono (pe_callS F hr hg hm hk hb (fun σ => passAt tk σ) ha.pa hdb he hpl) fun σ H Q ⟨s, L, Qd, Ed, hs, hr, q, hq, lp⟩ =>
    liftA_bind hs hr lp q fun ds L1 vs H1 q1 r1 hr1 k1 hs1 t1 lp1 => ⟨ds, L1, Qd, Ed, r1, hr1, q1, fun d L' v H' a b c k => hq d L' v H' a b c (k1.trans k), fun C fs L' cls dx H' a b c k => lp1.ex C fs L' cls dx H' a b c k⟩⟩
end
section
variable {P : Program} {w : World} {K : PySem.W.Frag} {mg : Str → Option Value} {base : Heap}
theorem Fun.okD {x qual : Str} {st : Stmt} {f : Addr} {fd : FuncData} {N ps : List Str} {k : Nat} {sp : SpD} {ds : DS} (F : Fun K x qual st f fd) (S : FnScope N ps (defScope st)) (len : ∀ as L Q E, sp as L Q E → as.length = ps.length)
    (pure : ∀ as L Q E, sp as L Q E → ds (fnEnds Q E) (dstart N.length as) L)
    (body : ∀ (cdv : Value) (A : Around) (outer : List Env) (s : Shared) (H : Hp) (E : XK), Room k (A.deeper (envOfC qual (defScope st) s.heap.objs.size f cdv)) →
      QSs (cxOf (L2.CX P w) P w K mg base N qual (defScope st) f cdv A outer s H E) (wE E) (defBody st) ds) :
    FnOk P w K mg base (L2.CX P w) (k + 1) f fd ps (liftSp ⟨K, mg⟩ sp) := by
  refine F.okX S (fun vs H Q E h => ?_) (fun cdv A outer s H vs Q E hr h => ⟨_, (body cdv A outer s H E hr).ps, ?_⟩)
  · obtain ⟨ds, L, Qd, Ed, r, _, h, _⟩ := h
    rw [← r.length]; exact len _ _ _ _ h
  · obtain ⟨as, L, Qd, Ed, r, hr', h, hq, hx⟩ := h
    refine ⟨dstart N.length as, L, fnEnds Qd Ed, r.slots N, hr', pure as L Qd Ed h, ?_, ?_, ?_, ?_, ?_⟩
    · exact fun s' L' σ' H' ⟨LL, l, q⟩ _ b k => hq .non LL .non H' q rfl (b.le l) (k.le l)
    · exact fun d L' v H' ⟨LL, l, q⟩ r b k => hq d LL v H' q r (b.le l) (k.le l)
    · exact fun s' L' σ' H' q => q.elim
    · exact fun s' L' σ' H' q => q.elim
    · exact fun C fs cls dx s' L' σ' H' ⟨LL, l, q⟩ x _ b k => hx C fs LL cls dx H' q x (b.le l) (k.le l)
end
/-! ### for -/
abbrev DI := DSt → DH → (List D → (DH → Prop) → DH → Prop) → XD → Prop
def ItOk (K : PySem.W.Frag) (J : It) (ds : List D) (ok : DH → Prop) (H0 : Hp) : Prop := ∀ (i : Nat) (H : Hp) (L : DH), TK H0 H → HR K H L → ok L → (i = ds.length → J.stop i H) ∧
  ∀ d, ds[i]? = some d → J.go i H ∧ ∀ x H', J.yld i H x H' → Rep K H' d x ∧ HR K H' L ∧ Kp H L H' L ∧ TK H H'
def liftI (M : KM) (W : WX) (di : DI) : TI := fun σ H R => ∃ s L Qd Ed, SR M.K H s σ ∧ HR M.K H L ∧ di s L Qd Ed ∧
  (∀ ds ok L' H' J, Qd ds ok L' → HR M.K H' L' → Kp H L H' L' → ItOk M.K J ds ok H' → R J H') ∧ LP M W σ H L Ed
structure QI (X : Cx) (W : WX) (tg iter : Expr) (di : DI) : Prop where
  pi : PI X tg iter (liftI X.km W di)
theorem PI_mono {X : Cx} {tg e : Expr} {t t' : TI} (h : PI X tg e t) (i : ∀ σ H R, t' σ H R → t σ H R) : PI X tg e t' := ⟨fun pins s σ H R I q => h.run pins s σ H R I (i σ H R q)⟩
def forD (g : DG) (body : DS) (ok : DH → Prop) : List D → DS
  | [] => fun dn s L => ok L ∧ dn.nx s L
  | d :: ds => fun dn s L => ok L ∧ g d s L (fun s1 L1 => body { dn with nx := fun s2 L2 => forD g body ok ds dn s2 L2, ct := fun s2 L2 => forD g body ok ds dn s2 L2, bk := dn.nx } s1 L1) (fun _ _ _ => False)
def sFor (di : DI) (g : DG) (body : DS) : DS := fun dn s L => di s L (fun ds ok L1 => forD g body ok ds dn s L1) (xOf dn s)
section
variable {X : Cx} {W : WX} {pos : Pos}
theorem qs_for {tg iter : Expr} {body : List Stmt} {di : DI} {g : DG} {db : DS} (hp : PassesOwn (model X.prog X.w) X.A X.env X.xe) (hc : X.calm = true) (hi : QI X W tg iter di) (hg : QG X tg g) (hb : QSs X W body db)
    (hs : ∀ x, foldedSetIterable iter X.env x = pure x := by intro _; rfl) : QS X W (.For tg iter body [] pos) (sFor di g db) := by
  obtain ⟨G, hG, lG⟩ := hg.pg
  refine ⟨PS_mono (ps_for hp hc hi.pi hG hb.ps hs) fun Dn σ H ⟨s, L, dn, hs, hr, h, p⟩ => ?_⟩
  refine ⟨s, L, _, xOf dn s, hs, hr, h, fun ds ok L1 H1 J q hr1 k1 ito => ?_, p.lp hs hr⟩
  refine ⟨fun i m σ' H' => ∃ s' L', i ≤ ds.length ∧ m = ds.length - i ∧ SR X.K H' s' σ' ∧ HR X.K H' L' ∧ TK H1 H' ∧ Kp H L H' L' ∧ forD g db ok (ds.drop i) dn s' L', ⟨_, s, L1, Nat.zero_le _, rfl, hs.tk (k1.tk hr), hr1, .refl _, k1, q⟩, ?_⟩
  rintro i m σ' H' ⟨s', L', hi, rfl, hs', hr', tk', k', q'⟩
  by_cases hlt : i < ds.length
  · have ed : ds.drop i = ds[i] :: ds.drop (i + 1) := List.drop_eq_getElem_cons hlt
    rw [ed] at q'
    obtain ⟨hok, q'⟩ := q'
    obtain ⟨go, yl⟩ := (ito i H' L' tk' hr' hok).2 ds[i] (List.getElem?_eq_getElem hlt)
    refine .inr ⟨go, fun σ2 H2 => ∃ s2 L2, SR X.K H2 s2 σ2 ∧ HR X.K H2 L2 ∧ TK H1 H2 ∧ Kp H L H2 L2 ∧ forD g db ok (ds.drop (i + 1)) dn s2 L2, fun σ2 H2 ⟨s2, L2, a, b, c, d, e⟩ => ⟨ds.length - (i + 1), by omega, s2, L2, hlt, rfl, a, b, c, d, e⟩, fun x H'' y => ?_⟩
    obtain ⟨ry, hry, ky, ty⟩ := yl x H'' y
    refine lG ds[i] x s' σ' H'' L' _ _ ry (hs'.tk ty) hry q' fun s1 L1' σ1 H1' q1 hs1 hr1' k1' => ?_
    have kk := (k'.trans ky).trans k1'
    have tt := (tk'.trans ty).trans (k1'.tk hry)
    refine ⟨s1, L1', _, hs1, hr1', q1, fun s2 L2 σ2 H2 a b c d => ⟨s2, L2, b, c, tt.trans (d.tk hr1'), kk.trans d, a⟩, ?_, ?_, fun s2 L2 σ2 H2 a b c d => ⟨s2, L2, b, c, tt.trans (d.tk hr1'), kk.trans d, a⟩, ?_⟩
    · exact fun d L2 v H2 a b c e => p.rt d L2 v H2 a b c (kk.trans e)
    · exact fun s2 L2 σ2 H2 a b c d => p.nx s2 L2 σ2 H2 a b c (kk.trans d)
    · exact fun C fs cls dx s2 L2 σ2 H2 a b c d e => p.ex C fs cls dx s2 L2 σ2 H2 a b c d (kk.trans e)
  · have e : i = ds.length := by omega
    subst e
    rw [List.drop_length] at q'
    obtain ⟨hok, q'⟩ := q'
    exact .inl ⟨(ito _ H' L' tk' hr' hok).1 rfl, p.nx s' L' σ' H' q' hs' hr' k'⟩
/-! while -/
def sWhile (c : DT) (db : DS) : DS := fun dn s L => ∃ Wd : Nat → DSt → DH → Prop, (∃ m, Wd m s L) ∧ ∀ m s L, Wd m s L →
  c s L (fun b L1 => if b = true then db { dn with nx := fun s' L' => ∃ m', m' < m ∧ Wd m' s' L', ct := fun s' L' => ∃ m', m' < m ∧ Wd m' s' L', bk := dn.nx } s L1 else dn.nx s L1) (xOf dn s)
theorem qs_while {c : Expr} {body : List Stmt} {dc : DT} {db : DS} (hp : PassesOwn (model X.prog X.w) X.A X.env X.xe) (hc : QT X W c dc) (hb : QSs X W body db) : QS X W (.While c body [] pos) (sWhile dc db) := by
  refine ⟨PS_mono (ps_while hp hc.pt hb.ps) fun Dn σ H ⟨s, L, dn, hs, hr, ⟨Wd, ⟨m0, h0⟩, h⟩, p⟩ => ?_⟩
  refine ⟨fun m σ' H' => ∃ s' L', SR X.K H' s' σ' ∧ HR X.K H' L' ∧ Kp H L H' L' ∧ Wd m s' L', ⟨m0, s, L, hs, hr, .refl, h0⟩, ?_⟩
  rintro m σ' H' ⟨s', L', hs', hr', k', hw⟩
  refine liftT_bind hs' hr' ((p.after k').lp hs' hr') (h m s' L' hw) fun k L1 H1 q1 hr1 k1 hs1 t1 lp1 => ?_
  have kk := k'.trans k1
  cases k with
  | false => exact (if_neg Bool.false_ne_true).mpr (p.nx s' L1 σ' H1 ((if_neg Bool.false_ne_true).mp q1) hs1 hr1 kk)
  | true =>
    refine (if_pos rfl).mpr ⟨fun σ2 H2 => ∃ m', m' < m ∧ ∃ s2 L2, SR X.K H2 s2 σ2 ∧ HR X.K H2 L2 ∧ Kp H L H2 L2 ∧ Wd m' s2 L2, fun σ2 H2 q => q, s', L1, _, hs1, hr1, (if_pos rfl).mp q1, ?_⟩
    exact ⟨fun s2 L2 σ2 H2 ⟨m', l, a⟩ b c d => ⟨m', l, s2, L2, b, c, kk.trans d, a⟩, fun d L2 v H2 a b c e => p.rt d L2 v H2 a b c (kk.trans e), fun s2 L2 σ2 H2 a b c d => p.nx s2 L2 σ2 H2 a b c (kk.trans d),
      fun s2 L2 σ2 H2 ⟨m', l, a⟩ b c d => ⟨m', l, s2, L2, b, c, kk.trans d, a⟩, fun C fs cls dx s2 L2 σ2 H2 a b c d e => p.ex C fs cls dx s2 L2 σ2 H2 a b c d (kk.trans e)⟩
end
/-! what is walked -/
def isSeq (L : DH) : D → Option (List D × (DH → Prop))
  | .tup ds => some (ds, fun _ => True)
  | .lro ds => some (ds, fun _ => True)
  | .ref a => match L a with
    | some (.lst ds) => some (ds, fun L' => L' a = some (.lst ds))
    | _ => none
  | _ => none
def dSeq (de : DE) : DI := fun s L Q E => de s L (fun d L1 => ∃ ds ok, isSeq L1 d = some (ds, ok) ∧ Q ds ok L1) E
def tSeqI (K : PySem.W.Frag) (tl : TE) : TI := fun σ H R => tl σ H fun x H1 => ∃ a, x = .ref a ∧ ((∃ xs, SqL K H1 a xs) ∧ R (Itl K a) H1 ∨ (∃ xs, SqT K H1 a xs) ∧ R (Itt K a) H1)
theorem pi_seq {X : Cx} {tg l : Expr} {tl : TE} (hl : PE X l tl) : PI X tg l (tSeqI X.K tl) := by
  refine ⟨fun pins s σ H R I h => ?_⟩
  refine thn (hl.run pins s σ H _ I h) fun v s1 ⟨x, H1, I1, r1, q1⟩ => ?_
  obtain ⟨a, e, q⟩ := q1
  subst e
  cases r1
  rcases q with ⟨⟨xs, hq⟩, q⟩ | ⟨⟨xs, hq⟩, q⟩
  · obtain ⟨its, rv, p, hz⟩ := I1.list hq
    refine wpAny_pyIter_list p.isList ?_
    refine ⟨s1.heap.objs.size, [s1.heap.objs.size], _, _, H1, rfl, I1.kept (t' := s1.toks) fun b o e => Heap.get?_push_of_some _ e, turn_list a _, ⟨_, Heap.get?_push_size _ rfl, rfl, rfl⟩, fun b hb => ?_, q⟩
    have e : b = s1.heap.objs.size := by simpa using hb
    subst e
    exact I1.fpOk (Nat.le_refl _) (I1.hok.fresh (Nat.le_refl _))
  · obtain ⟨its, rv, p, hz⟩ := I1.tuple hq
    refine wpAny_pyIter_tuple (show s1.heap.IsTuple a its.toArray from p) ?_
    refine ⟨s1.heap.objs.size, [s1.heap.objs.size], _, _, H1, rfl, I1.kept (t' := s1.toks) fun b o e => Heap.get?_push_of_some _ e, turn_tuple a _, ⟨_, Heap.get?_push_size _ rfl, rfl, rfl⟩, fun b hb => ?_, q⟩
    have e : b = s1.heap.objs.size := by simpa using hb
    subst e
    exact I1.fpOk (Nat.le_refl _) (I1.hok.fresh (Nat.le_refl _))
/-- two lists told of one object are the same -/
theorem sqL_of {K : PySem.W.Frag} {H : Hp} {a : Addr} {xs : List V} (h : SqL K H a xs) {i : Nat} {v : V} (e : xs[i]? = some v) : (Itl K a).go i H := ⟨xs, v, h, e⟩
section
variable {X : Cx} {W : WX} {pos : Pos}
theorem itOk_L {K : PySem.W.Frag} {a : Addr} {ds : List D} {ok : DH → Prop} {H0 : Hp} (h : ∀ H L, TK H0 H → HR K H L → ok L → ∃ vs, SqL K H a vs ∧ RepL K H ds vs) : ItOk K (Itl K a) ds ok H0 := fun i H L tk hr hok => by
  obtain ⟨vs, sq, r⟩ := h H L tk hr hok
  refine ⟨fun e => ⟨vs, sq, by rw [← r.length]; exact Nat.le_of_eq e.symm⟩, fun d e => ?_⟩
  obtain ⟨v, e2, rv⟩ := r.get e
  refine ⟨⟨vs, v, sq, e2⟩, fun x H' ⟨e3, y⟩ => ?_⟩
  subst e3
  have := y vs sq
  rw [e2] at this
  cases this
  exact ⟨rv, hr, .refl, .refl _⟩
theorem itOk_T {K : PySem.W.Frag} {a : Addr} {ds : List D} {ok : DH → Prop} {H0 : Hp} (h : ∀ H L, TK H0 H → HR K H L → ok L → ∃ vs, SqT K H a vs ∧ RepL K H ds vs) : ItOk K (Itt K a) ds ok H0 := fun i H L tk hr hok => by
  obtain ⟨vs, sq, r⟩ := h H L tk hr hok
  refine ⟨fun e => ⟨vs, sq, by rw [← r.length]; exact Nat.le_of_eq e.symm⟩, fun d e => ?_⟩
  obtain ⟨v, e2, rv⟩ := r.get e
  refine ⟨⟨vs, v, sq, e2⟩, fun x H' ⟨e3, y⟩ => ?_⟩
  subst e3
  have := y vs sq
  rw [e2] at this
  cases this
  exact ⟨rv, hr, .refl, .refl _⟩
theorem qi_seq {tg e : Expr} {de : DE} (h : QE X W e de) : QI X W tg e (dSeq de) :=
  ⟨PI_mono (pi_seq h.pe) fun σ H R ⟨s, L, Qd, Ed, hs, hr, q, hq, lp⟩ => liftE_bind hs hr lp q fun d L1 x H1 ⟨ds, ok, e, q1⟩ r1 hr1 k1 hs1 t1 lp1 => by
    cases d with
    | tup xs =>
      cases e
      obtain ⟨a, vs, e2, sq, rl⟩ := r1
      exact ⟨a, e2, .inr ⟨⟨vs, sq⟩, hq _ _ L1 H1 _ q1 hr1 k1 (itOk_T fun H L tk _ _ => ⟨vs, tk.sqT sq, RepL.tk tk _ _ rl⟩)⟩⟩
    | lro xs =>
      cases e
      obtain ⟨a, vs, e2, sq, rl⟩ := r1
      exact ⟨a, e2, .inl ⟨⟨vs, sq.sq⟩, hq _ _ L1 H1 _ q1 hr1 k1 (itOk_L fun H L tk _ _ => ⟨vs, (tk.fzL sq).sq, RepL.tk tk _ _ rl⟩)⟩⟩
    | ref a =>
      have e : (match L1 a with | some (.lst ds) => some (ds, fun L' : DH => L' a = some (.lst ds)) | _ => none) = some (ds, ok) := e
      cases hL : L1 a with
      | some o =>
        cases o with
        | dct _ => rw [hL] at e; cases e
        | dtp _ => rw [hL] at e; cases e
        | obj _ _ => rw [hL] at e; cases e
        | lst xs =>
        rw [hL] at e
        cases e
        obtain ⟨vs, h1, rl⟩ := hr1 a _ hL
        exact ⟨a, r1, .inl ⟨⟨vs, SqL.of h1⟩, hq _ _ L1 H1 _ q1 hr1 k1 (itOk_L fun H L tk hr hok => let ⟨us, h2, r2⟩ := hr a _ hok; ⟨us, SqL.of h2, r2⟩)⟩⟩
      | none => rw [hL] at e; cases e
    | _ => cases e⟩
/-! ranges -/
def rngD (lo : Int) (n : Nat) : List D := (List.range n).map fun (i : Nat) => D.int (lo + i)
theorem itOk_R {K : PySem.W.Frag} {lo : Int} {n : Nat} {ok : DH → Prop} {H0 : Hp} : ItOk K (Itr lo n) (rngD lo n) ok H0 := fun i H L tk hr hok => by
  have hl : (rngD lo n).length = n := by simp [rngD]
  refine ⟨fun e => by show n ≤ i; omega, fun d e => ?_⟩
  have hi : i < n := by
    have := (List.getElem?_eq_some_iff.mp e).1
    omega
  refine ⟨hi, fun x H' ⟨e3, y⟩ => ?_⟩
  subst e3 y
  have : d = D.int (lo + i) := by
    unfold rngD at e
    rw [List.getElem?_map, List.getElem?_range hi] at e
    exact (Option.some.inj e).symm
  subst this
  exact ⟨rfl, hr, .refl, .refl _⟩
def dRng1 (t : DA) : DI := fun s L Q E => t s L (fun ds L1 => ∃ j : Int, ds = [.int j] ∧ (-(2 ^ 62) ≤ j ∧ j < 2 ^ 62) ∧ Q (rngD 0 j.toNat) (fun _ => True) L1) E
def dRng2 (t : DA) : DI := fun s L Q E => t s L (fun ds L1 => ∃ i j : Int, ds = [.int i, .int j] ∧ (-(2 ^ 62) ≤ i ∧ i < 2 ^ 62 ∧ -(2 ^ 62) ≤ j ∧ j < 2 ^ 62) ∧ Q (rngD i (j - i).toNat) (fun _ => True) L1) E
theorem qi_rng1 {tg a : Expr} {p : Pos} {ta : DA} (hm : X.mg "range" = none) (ha : QA X W [a] ta) (hg : Gl X "range" := by rfl) (hs : starEach [a] X.env = [(false, eval a X.env)] := by rfl) : QI X W tg (.Call (.Name "range" p) [a] [] pos) (dRng1 ta) :=
  ⟨PI_mono (pi_range1 hg hm ha.pa hs) fun σ H R ⟨s, L, Qd, Ed, hs, hr, q, hq, lp⟩ => liftA_bind hs hr lp q fun ds L1 vs H1 ⟨j, e, b, q1⟩ r1 hr1 k1 hs1 t1 lp1 => by
    subst e
    have e2 := repL_ints (ns := [j]) r1
    exact ⟨j, e2, b.1, b.2, hq _ _ L1 H1 _ q1 hr1 k1 itOk_R⟩⟩
theorem qi_rng2 {tg a b : Expr} {p : Pos} {ta : DA} (hm : X.mg "range" = none) (ha : QA X W [a, b] ta) (hg : Gl X "range" := by rfl) (hs : starEach [a, b] X.env = [(false, eval a X.env), (false, eval b X.env)] := by rfl) (hs2 : starEach [b] X.env = [(false, eval b X.env)] := by rfl) :
    QI X W tg (.Call (.Name "range" p) [a, b] [] pos) (dRng2 ta) :=
  ⟨PI_mono (pi_range2 hg hm ha.pa hs hs2) fun σ H R ⟨s, L, Qd, Ed, hs, hr, q, hq, lp⟩ => liftA_bind hs hr lp q fun ds L1 vs H1 ⟨i, j, e, b, q1⟩ r1 hr1 k1 hs1 t1 lp1 => by
    subst e
    have e2 := repL_ints (ns := [i, j]) r1
    exact ⟨i, j, e2, b, hq _ _ L1 H1 _ q1 hr1 k1 itOk_R⟩⟩
end
end D2

set_option Elab.async false
set_option linter.all false
set_option maxRecDepth 100000
set_option maxHeartbeats 1000000
namespace D2
open PySem PySem.Spec PyProof.Rows L2
/-! ### operators -/
section
variable {K : PySem.W.Frag}
def dI (C : Int → Int → Prop) (f : Int → Int → Int) : RD2 := fun x y L Q => match x, y with
  | .int i, .int j => C i j ∧ Q (.int (f i j)) L
  | _, _ => False
theorem opd_I {C : Int → Int → Prop} {f : Int → Int → Int} : OpD K (rI C fun i j => .int (f i j)) (dI C f) := fun H L d e x y Qd Q rx ry hr q k => by
  cases d with
  | int i =>
    cases e with
    | int j => exact ⟨i, j, rx, ry, q.1, k _ L _ H q.2 rfl hr .refl⟩
    | _ => exact False.elim q
  | _ => exact False.elim q
def dI0 (f : Int → Int → Int) : RD2 := fun x y L Q => match x, y with
  | .int i, .int j => Q (.int (f i j)) L
  | _, _ => False
theorem opd_I0 {f : Int → Int → Int} : OpD K (rI0 fun i j => .int (f i j)) (dI0 f) := fun H L d e x y Qd Q rx ry hr q k => by
  cases d with
  | int i =>
    cases e with
    | int j => exact ⟨i, j, rx, ry, k _ L _ H q rfl hr .refl⟩
    | _ => exact False.elim q
  | _ => exact False.elim q
def dB0 (f : Int → Int → Bool) : RD2 := fun x y L Q => match x, y with
  | .int i, .int j => Q (.bl (f i j)) L
  | _, _ => False
theorem opd_B0 {f : Int → Int → Bool} : OpD K (rI0 fun i j => .bl (f i j)) (dB0 f) := fun H L d e x y Qd Q rx ry hr q k => by
  cases d with
  | int i =>
    cases e with
    | int j => exact ⟨i, j, rx, ry, k _ L _ H q rfl hr .refl⟩
    | _ => exact False.elim q
  | _ => exact False.elim q
abbrev dSub : RD2 := dI0 fun i j => i - j
def CMulA (i j : Int) : Prop := CMul i j ∨ CMulW i j
abbrev dMulI : RD2 := dI CMulA fun i j => i * j
theorem op_mulA {X : Cx} : OpR X (binaryOp .Mult) (rI CMulA fun i j => .int (i * j)) := opI fun _ _ _ _ _ _ _ hc q => mul_int q (hc.elim CMul.ok CMulW.ok)
theorem cmul_l {i j : Int} (h1 : -(2 ^ 64) < i) (h2 : i < 2 ^ 64) : CMulA i j := .inl (.inl ⟨h1, h2⟩)
theorem cmul_r {i j : Int} (h1 : -(2 ^ 64) < j) (h2 : j < 2 ^ 64) : CMulA i j := .inl (.inr ⟨h1, h2⟩)
theorem cdiv_of {i j : Int} (h1 : 0 < j) (h2 : j < 2 ^ 64) : CDivW i j := wide_div (b := 64) h1 (by omega) (by decide) (by decide)
abbrev dDiv : RD2 := dI CDivW fun i j => i / j
abbrev dMod : RD2 := dI (fun _ j => 0 < j) fun i j => i % j
abbrev dLt : RD2 := dB0 fun i j => decide (i < j)
abbrev dLe : RD2 := dB0 fun i j => decide (i ≤ j)
abbrev dGt : RD2 := dB0 fun i j => decide (j < i)
abbrev dGe : RD2 := dB0 fun i j => decide (j ≤ i)
def CPowW (i j : Int) : Prop := 0 ≤ j ∧ (Builtin.Int.intBits i : Int) * j ≤ 2 ^ 27
abbrev dPow : RD2 := dI CPowW fun i j => i ^ j.toNat
theorem op_powW {X : Cx} : OpR X (binaryOp .Pow) (rI CPowW fun i j => .int (i ^ j.toNat)) := opI fun _ _ _ _ _ _ _ hc q => PyProof.Rows.pow_int hc.1 hc.2 q
/-! + -/
theorem strOk_app {x y : Str} (hx : PyData.strOk x = true) (hy : PyData.strOk y = true) : PyData.strOk (x ++ y) = true := by
  have e : (x ++ y).cps = x.cps ++ y.cps := rfl
  unfold PyData.strOk at *
  rw [e, Array.all_append, hx, hy]; rfl
theorem cat_tup0 {prog : Program} {w : World} {A : Around} {E : Value → Shared → Prop} {s : Shared} {t b : Addr} {ws : List Value} {Q : Value → Shared → Prop} (ht : IsTup s.heap t #[]) (hb : IsTup s.heap b ws.toArray)
    (h1 : Q (.ref b) s) : wpAny (model prog w) A (binaryOp .Add (.ref t) (.ref b)) Q E s := by
  obtain ⟨⟨cls, dd, data, sl⟩, ho, hc, n, hd⟩ := id ht
  obtain ⟨⟨cls2, dd2, data2, sl2⟩, ho2, hc2, n2, hd2⟩ := id hb
  simp only at hc hd hc2 hd2
  subst hc hd hc2 hd2
  exact concat_meets ⟨_, ho, rfl⟩ ⟨_, ho2, rfl⟩ noFill_tuple_add seq_tuple_add PySem.F.slot_tuple_add PySem.F.entry_tuple_add (PySem.F.args_tuple_add_2 _ _)
      (tuple_addW0 t b #[] ws.toArray n n2 dd dd2 sl sl2 (by simp)) ⟨ho, ho2, h1⟩
def rCatT0 (K : PySem.W.Frag) : R2 := fun x y H Q => ∃ a b ys, x = .ref a ∧ y = .ref b ∧ SqT K H a [] ∧ SqT K H b ys ∧ Q (.ref b) H
theorem op_catT0 {X : Cx} : OpR X (binaryOp .Add) (rCatT0 X.K) := by
  intro pins s σ H x y v u Q I rx ry h
  obtain ⟨a, b, ys, rfl, rfl, ha, hb, q⟩ := h
  cases rx
  cases ry
  obtain ⟨its, r1, p1, _⟩ := I.tuple ha
  obtain ⟨its2, r2, p2, _⟩ := I.tuple hb
  cases r1
  exact cat_tup0 p1 p2 ⟨.ref b, H, I, rfl, q⟩
def rStrCat : R2 := fun x y H Q => ∃ i j, x = .str i ∧ y = .str j ∧ i.length + j.length ≤ sizeLine ∧ Q (.str (i ++ j)) H
abbrev rAddAll (K : PySem.W.Frag) : R2 := fun x y H Q => (rI0 (fun i j => .int (i + j)) x y H Q ∨ rStrCat x y H Q) ∨ (rCatT0 K x y H Q ∨ rCatT K x y H Q) ∨ rCat x y H Q
theorem op_addAll {X : Cx} : OpR X (binaryOp .Add) (rAddAll X.K) := (op_add.or op_add_str).or ((op_catT0.or op_catT).or op_cat)
def dAdd : RD2 := fun x y L Q => match x, y with
  | .int i, .int j => Q (.int (i + j)) L
  | .str i, .str j => i.length + j.length ≤ 16777216 ∧ Q (.str (i ++ j)) L
  | .tup xs, .tup ys => xs.length + ys.length ≤ 16777216 ∧ Q (.tup (xs ++ ys)) L
  | .ref a, .ref b => ∃ xs ys, L a = some (.lst xs) ∧ L b = some (.lst ys) ∧ xs.length + ys.length ≤ 16777216 ∧ ∀ p, L p = none → Q (.ref p) (upd L p (.lst (xs ++ ys)))
  | _, _ => False
theorem opd_add : OpD K (rAddAll K) dAdd := fun H L d e x y Qd Q rx ry hr q k => by
  cases d with
  | int i =>
    cases e with
    | int j => exact .inl (.inl ⟨i, j, rx, ry, k _ L _ H q rfl hr .refl⟩)
    | _ => exact False.elim q
  | str i =>
    cases e with
    | str j => exact .inl (.inr ⟨i, j, rx.1, ry.1, line_of q.1, k _ L _ H q.2 ⟨rfl, strOk_app rx.2 ry.2⟩ hr .refl⟩)
    | _ => exact False.elim q
  | tup xs =>
    cases e with
    | tup ys =>
      obtain ⟨a, vs, e1, s1, r1⟩ := rx
      obtain ⟨b, us, e2, s2, r2⟩ := ry
      rcases Classical.em (vs = []) with hv | hv
      · subst hv
        have : xs = [] := by have := r1.length; cases xs <;> simp_all
        subst this
        exact .inr (.inl (.inl ⟨a, b, us, e1, e2, s1, s2, k _ L _ H q.2 ⟨b, us, rfl, s2, r2⟩ hr .refl⟩))
      · refine .inr (.inl (.inr ⟨a, b, vs, us, e1, e2, s1, s2, hv, by rw [← r1.length, ← r2.length]; exact line_of q.1, fun z => ?_, fun _ p hp => ?_⟩))
        · subst z
          have : ys = [] := by have := r2.length; cases ys <;> simp_all
          subst this
          exact k _ L _ H q.2 ⟨a, vs, rfl, s1, by simpa using r1⟩ hr .refl
        · exact k _ L _ _ q.2 ⟨p, _, rfl, .inl (.inl upd_same), RepL.tk (HR.tk_new hp) _ _ (r1.append r2)⟩ (hr.laid hp).1 (hr.laid hp).2
    | _ => exact False.elim q
  | ref a =>
    cases e with
    | ref b =>
      obtain ⟨xs, ys, h1, h2, hl, q⟩ := q
      obtain ⟨vs, g1, r1⟩ := hr a _ h1
      obtain ⟨us, g2, r2⟩ := hr b _ h2
      exact .inr (.inr ⟨a, b, vs, us, rx, ry, g1, g2, by rw [← r1.length, ← r2.length]; exact line_of hl, fun p hp => k _ _ _ _ (q p (hr.free hp)) rfl (hr.new hp (r1.append r2)).1 (hr.new hp (r1.append r2)).2⟩)
    | _ => exact False.elim q
  | _ => exact False.elim q
/-! is None -/
def isNon : D → Bool
  | .non => true
  | _ => false
def dIsN : RD2 := fun x y L Q => match y with
  | .non => Q (.bl (isNon x)) L
  | _ => False
def dNotN : RD2 := fun x y L Q => match y with
  | .non => Q (.bl (!isNon x)) L
  | _ => False
theorem rep_non {H : Hp} {d : D} {x : V} (r : Rep K H d x) : decide (x = .non) = isNon d := by
  cases d with
  | non => cases (show x = _ from r); rfl
  | bl b => cases (show x = _ from r); rfl
  | int b => cases (show x = _ from r); rfl
  | str b => cases (show x = _ from r.1); rfl
  | tup b => obtain ⟨a, vs, e, _⟩ := r; subst e; rfl
  | lro b => obtain ⟨a, vs, e, _⟩ := r; subst e; rfl
  | ref b => cases (show x = _ from r); rfl
  | exc _ _ _ _ _ => cases (show x = _ from r.1); rfl
theorem opd_isN : OpD K (fun x y H Q => y = .non ∧ Q (.bl (decide (x = .non))) H) dIsN := fun H L d e x y Qd Q rx ry hr q k => by
  cases e with
  | non => exact ⟨ry, by rw [rep_non rx]; exact k _ L _ H q rfl hr .refl⟩
  | _ => exact False.elim q
theorem opd_notN : OpD K (fun x y H Q => y = .non ∧ Q (.bl (!decide (x = .non))) H) dNotN := fun H L d e x y Qd Q rx ry hr q k => by
  cases e with
  | non =>
    refine ⟨ry, ?_⟩
    rw [rep_non rx]
    exact k _ L _ H q rfl hr .refl
  | _ => exact False.elim q
/-! indexes -/
def dIx : RD2 := fun x y L Q => match y with
  | .int i => (match x with
    | .tup xs => ∃ d, atI xs i = some d ∧ Q d L
    | .lro xs => ∃ d, atI xs i = some d ∧ Q d L
    | .str z => z.length ≤ 16777216 ∧ ∃ c, atI z.cps.toList i = some c ∧ Q (.str ⟨#[c]⟩) L
    | .ref a => ∃ xs, L a = some (.lst xs) ∧ ∃ d, atI xs i = some d ∧ Q d L
    | _ => False)
  | _ => False
theorem RepL.atI {H : Hp} {ds : List D} {vs : List V} {i : Int} {d : D} (h : RepL K H ds vs) (e : atI ds i = some d) : ∃ v, L2.atI vs i = some v ∧ Rep K H d v := by
  unfold L2.atI at *
  rw [← h.length]
  cases q : ixN ds.length i with
  | none => rw [q] at e; cases e
  | some j =>
    rw [q] at e
    obtain ⟨v, h1, h2⟩ := h.get (i := j) (d := d) e
    exact ⟨v, h1, h2⟩
theorem strOk_mem {z : Str} (h : PyData.strOk z = true) {c : Nat} (hc : c ∈ z.cps.toList) : PyData.strOk ⟨#[c]⟩ = true := by
  unfold PyData.strOk at *
  rw [Array.all_eq_true] at h
  have : c < 0x110000 := by
    obtain ⟨i, hi, e⟩ := List.getElem_of_mem hc
    have := h i (by simpa using hi)
    rw [← e]
    simpa using this
  simp [this]
theorem atI_mem {α : Type} {xs : List α} {i : Int} {v : α} (h : atI xs i = some v) : v ∈ xs := by
  obtain ⟨j, _, e, _⟩ := atI_get h
  exact List.mem_of_getElem? e
theorem opd_ix : OpD K (rIx K) dIx := fun H L d e x y Qd Q rx ry hr q k => by
  cases e with
  | int i =>
    cases d with
    | tup xs =>
      obtain ⟨a, vs, e1, s1, r1⟩ := rx
      obtain ⟨d, e2, q⟩ := q
      obtain ⟨v, e3, r3⟩ := r1.atI e2
      exact .inr (.inl ⟨a, vs, i, v, e1, ry, s1, e3, k _ L _ H q r3 hr .refl⟩)
    | lro xs =>
      obtain ⟨a, vs, e1, s1, r1⟩ := rx
      obtain ⟨d, e2, q⟩ := q
      obtain ⟨v, e3, r3⟩ := r1.atI e2
      exact .inl ⟨a, vs, i, v, e1, ry, s1.sq, e3, k _ L _ H q r3 hr .refl⟩
    | str z =>
      obtain ⟨hl, c, e2, q⟩ := q
      exact .inr (.inr ⟨z, i, c, rx.1, ry, line_of hl, e2, k _ L _ H q ⟨rfl, strOk_mem rx.2 (atI_mem e2)⟩ hr .refl⟩)
    | ref a =>
      obtain ⟨xs, h1, d, e2, q⟩ := q
      obtain ⟨vs, g1, r1⟩ := hr a _ h1
      obtain ⟨v, e3, r3⟩ := r1.atI e2
      exact .inl ⟨a, vs, i, v, rx, ry, SqL.of g1, e3, k _ L _ H q r3 hr .refl⟩
    | _ => exact False.elim q
  | _ => exact False.elim q
/-! stores -/
def dSetL : SetD := fun o i d L P => match o, i with
  | .ref a, .int j => ∃ xs n, L a = some (.lst xs) ∧ ixN xs.length j = some n ∧ P (upd L a (.lst (xs.set n d)))
  | _, _ => False
theorem set_d : SetOk K rSetL dSetL := fun o i d vo vi v H L P Q ro ri rd hr q k => by
  cases o with
  | ref a =>
    cases i with
    | int j =>
      obtain ⟨xs, n, h1, e, q⟩ := q
      obtain ⟨vs, g1, r1⟩ := hr a _ h1
      exact ⟨a, vs, j, n, ro, ri, g1, by rw [← r1.length]; exact e, k _ _ q (hr.set h1 (r1.set n rd)).1 (hr.set h1 (r1.set n rd)).2⟩
    | _ => exact False.elim q
  | _ => exact False.elim q
/-! unary minus -/
def dNeg : D → DH → DK → Prop := fun x L Q => match x with
  | .int i => Q (.int (-i)) L
  | _ => False
theorem und_neg : UnD K (rU fun i => .int (-i)) dNeg := fun H L d x Qd Q rx hr q k => by
  cases d with
  | int i => exact ⟨i, rx, k _ L _ H q rfl hr .refl⟩
  | _ => exact False.elim q
/-! calls by values -/
/-- one argument -/
def one (f : D → DH → DK → Prop) : RDA := fun ds L Q => match ds with
  | [] => False
  | d :: r => match r with
    | [] => f d L Q
    | _ :: _ => False
def two (f : D → D → DH → DK → Prop) : RDA := fun ds L Q => match ds with
  | [] => False
  | d :: r => match r with
    | [] => False
    | e :: t => match t with
      | [] => f d e L Q
      | _ :: _ => False
theorem RepL.one_inv {H : Hp} {d : D} {vs : List V} (h : RepL K H [d] vs) : ∃ v, vs = [v] ∧ Rep K H d v := by
  obtain ⟨v, r, e, h, q⟩ := h
  cases (show r = [] from q)
  exact ⟨v, e, h⟩
theorem RepL.two_inv {H : Hp} {d e : D} {vs : List V} (h : RepL K H [d, e] vs) : ∃ v u, vs = [v, u] ∧ Rep K H d v ∧ Rep K H e u := by
  obtain ⟨v, r, e, h, u, r2, e2, h2, q⟩ := h
  cases (show r2 = [] from q)
  exact ⟨v, u, by rw [e, e2], h, h2⟩
theorem cd_one {r : List V → Hp → VK → Prop} {f : D → DH → DK → Prop} (h : ∀ (H : Hp) (L : DH) (d : D) (x : V) (Qd : DK) (Q : VK), Rep K H d x → HR K H L → f d L Qd →
    (∀ d' L' v H', Qd d' L' → Rep K H' d' v → HR K H' L' → Kp H L H' L' → Q v H') → r [x] H Q) : CallD K r (one f) := fun H L ds xs Qd Q rr hr q k => by
  cases ds with
  | nil => exact q.elim
  | cons d t =>
    cases t with
    | nil => obtain ⟨v, e, rv⟩ := rr.one_inv; subst e; exact h H L d v Qd Q rv hr q k
    | cons _ _ => exact q.elim
theorem cd_two {r : List V → Hp → VK → Prop} {f : D → D → DH → DK → Prop} (h : ∀ (H : Hp) (L : DH) (d e : D) (x y : V) (Qd : DK) (Q : VK), Rep K H d x → Rep K H e y → HR K H L → f d e L Qd →
    (∀ d' L' v H', Qd d' L' → Rep K H' d' v → HR K H' L' → Kp H L H' L' → Q v H') → r [x, y] H Q) : CallD K r (two f) := fun H L ds xs Qd Q rr hr q k => by
  cases ds with
  | nil => exact q.elim
  | cons d t =>
    cases t with
    | nil => exact q.elim
    | cons e t =>
      cases t with
      | nil => obtain ⟨v, u, e, rv, ru⟩ := rr.two_inv; subst e; exact h H L d _ v u Qd Q rv ru hr q k
      | cons _ _ => exact q.elim
def dLen1 : D → DH → DK → Prop := fun d L Q => match d with
  | .tup xs => Q (.int xs.length) L
  | .lro xs => Q (.int xs.length) L
  | .str z => z.length ≤ 16777216 ∧ Q (.int z.length) L
  | .ref a => ∃ xs, L a = some (.lst xs) ∧ Q (.int xs.length) L
  | _ => False
abbrev dLen : RDA := one dLen1
theorem cd_len : CallD K (fun xs H Q => ∃ x n, xs = [x] ∧ LenV K x H n ∧ Q (.int n) H) dLen := cd_one fun H L d x Qd Q r hr q k => by
  cases d with
  | tup ys =>
    obtain ⟨a, vs, e1, s1, r1⟩ := r
    subst e1
    exact ⟨_, vs.length, rfl, .inr ⟨vs, s1, rfl⟩, by rw [← r1.length]; exact k _ L _ H q rfl hr .refl⟩
  | lro ys =>
    obtain ⟨a, vs, e1, s1, r1⟩ := r
    subst e1
    exact ⟨_, vs.length, rfl, .inl ⟨vs, s1.sq, rfl⟩, by rw [← r1.length]; exact k _ L _ H q rfl hr .refl⟩
  | str z =>
    obtain ⟨e1, _⟩ := r
    subst e1
    exact ⟨_, z.length, rfl, ⟨line_of q.1, rfl⟩, k _ L _ H q.2 rfl hr .refl⟩
  | ref a =>
    cases (show x = _ from r)
    obtain ⟨ys, h1, q⟩ := q
    obtain ⟨vs, g1, r1⟩ := hr a _ h1
    exact ⟨_, vs.length, rfl, .inl ⟨vs, SqL.of g1, rfl⟩, by rw [← r1.length]; exact k _ L _ H q rfl hr .refl⟩
  | _ => exact False.elim q
/-- list(x), tuple(x) -/
def dListOf1 : D → DH → DK → Prop := fun d L Q => match d with
  | .tup xs => ∀ p, L p = none → Q (.ref p) (upd L p (.lst xs))
  | .lro xs => ∀ p, L p = none → Q (.ref p) (upd L p (.lst xs))
  | .ref a => ∃ xs, L a = some (.lst xs) ∧ ∀ p, L p = none → Q (.ref p) (upd L p (.lst xs))
  | _ => False
abbrev dListOf : RDA := one dListOf1
theorem cd_list : CallD K (fun xs H Q => ∃ p ys, xs = [.ref p] ∧ (SqL K H p ys ∨ SqT K H p ys) ∧ ∀ l, H l = none → Q (.ref l) (L2.upd H l (.lst ys))) dListOf := cd_one fun H L d x Qd Q r hr q k => by
  cases d with
  | tup ys =>
    obtain ⟨a, vs, e1, s1, r1⟩ := r
    subst e1
    exact ⟨_, vs, rfl, .inr s1, fun p hp => k _ _ _ _ (q p (hr.free hp)) rfl (hr.new hp r1).1 (hr.new hp r1).2⟩
  | lro ys =>
    obtain ⟨a, vs, e1, s1, r1⟩ := r
    subst e1
    exact ⟨_, vs, rfl, .inl s1.sq, fun p hp => k _ _ _ _ (q p (hr.free hp)) rfl (hr.new hp r1).1 (hr.new hp r1).2⟩
  | ref a =>
    cases (show x = _ from r)
    obtain ⟨ys, h1, q⟩ := q
    obtain ⟨vs, g1, r1⟩ := hr a _ h1
    exact ⟨_, vs, rfl, .inl (SqL.of g1), fun p hp => k _ _ _ _ (q p (hr.free hp)) rfl (hr.new hp r1).1 (hr.new hp r1).2⟩
  | _ => exact False.elim q
def dTupOf1 : D → DH → DK → Prop := fun d L Q => match d with
  | .tup xs => Q (.tup xs) L
  | .lro xs => Q (.tup xs) L
  | .ref a => ∃ xs, L a = some (.lst xs) ∧ Q (.tup xs) L
  | _ => False
abbrev dTupOf : RDA := one dTupOf1
theorem cd_tup : CallD K (fun xs H Q => ∃ p ys, xs = [.ref p] ∧ ((SqL K H p ys ∧ ∀ l, H l = none → Q (.ref l) (L2.upd H l (.tup ys))) ∨ (SqT K H p ys ∧ Q (.ref p) H))) dTupOf := cd_one fun H L d x Qd Q r hr q k => by
  cases d with
  | tup ys =>
    obtain ⟨a, vs, e1, s1, r1⟩ := r
    subst e1
    exact ⟨_, vs, rfl, .inr ⟨s1, k _ L _ H q ⟨a, vs, rfl, s1, r1⟩ hr .refl⟩⟩
  | lro ys =>
    obtain ⟨a, vs, e1, s1, r1⟩ := r
    subst e1
    exact ⟨_, vs, rfl, .inl ⟨s1.sq, fun p hp => k _ L _ _ q ⟨p, vs, rfl, .inl (.inl upd_same), RepL.tk (HR.tk_new hp) _ _ r1⟩ (hr.laid hp).1 (hr.laid hp).2⟩⟩
  | ref a =>
    cases (show x = _ from r)
    obtain ⟨ys, h1, q⟩ := q
    obtain ⟨vs, g1, r1⟩ := hr a _ h1
    exact ⟨_, vs, rfl, .inl ⟨SqL.of g1, fun p hp => k _ L _ _ q ⟨p, vs, rfl, .inl (.inl upd_same), RepL.tk (HR.tk_new hp) _ _ r1⟩ (hr.laid hp).1 (hr.laid hp).2⟩⟩
  | _ => exact False.elim q
/-- abs, int -/
def dAbs1 : D → DH → DK → Prop := fun d L Q => match d with
  | .int i => Q (.int (if i < 0 then -i else i)) L
  | _ => False
abbrev dAbs : RDA := one dAbs1
theorem cd_abs : CallD K (fun xs H Q => ∃ i, xs = [.int i] ∧ Q (.int (if i < 0 then -i else i)) H) dAbs := cd_one fun H L d x Qd Q r hr q k => by
  cases d with
  | int i => cases (show x = _ from r); exact ⟨i, rfl, k _ L _ H q rfl hr .refl⟩
  | _ => exact False.elim q
def dIntOf1 : D → DH → DK → Prop := fun d L Q => match d with
  | .int i => Q (.int i) L
  | .bl b => Q (.int (if b then 1 else 0)) L
  | _ => False
abbrev dIntOf : RDA := one dIntOf1
theorem cd_int : CallD K (fun xs H Q => (∃ i, xs = [.int i] ∧ Q (.int i) H) ∨ ∃ k, xs = [.bl k] ∧ Q (.int (if k then 1 else 0)) H) dIntOf := cd_one fun H L d x Qd Q r hr q k => by
  cases d with
  | int i => cases (show x = _ from r); exact .inl ⟨i, rfl, k _ L _ H q rfl hr .refl⟩
  | bl i => cases (show x = _ from r); exact .inr ⟨i, rfl, k _ L _ H q rfl hr .refl⟩
  | _ => exact False.elim q
def dII (f : Int → Int → Int) : D → D → DH → DK → Prop := fun d e L Q => match d, e with
  | .int i, .int j => Q (.int (f i j)) L
  | _, _ => False
theorem cd_II {f : Int → Int → Int} {r : List V → Hp → VK → Prop} (h : ∀ i j H Q, Q (.int (f i j)) H → r [.int i, .int j] H Q) : CallD K r (two (dII f)) := cd_two fun H L d e x y Qd Q rx ry hr q k => by
  cases d with
  | int i =>
    cases e with
    | int j => cases (show x = _ from rx); cases (show y = _ from ry); exact h i j H Q (k _ L _ H q rfl hr .refl)
    | _ => exact False.elim q
  | _ => exact False.elim q
abbrev dMax2 : RDA := two (dII fun i j => if j > i then j else i)
abbrev dMin2 : RDA := two (dII fun i j => if j < i then j else i)
theorem cd_max2 : CallD K (fun xs H Q => ∃ i j, xs = [.int i, .int j] ∧ Q (.int (if j > i then j else i)) H) dMax2 := cd_II fun i j H Q q => ⟨i, j, rfl, q⟩
theorem cd_min2 : CallD K (fun xs H Q => ∃ i j, xs = [.int i, .int j] ∧ Q (.int (if j < i then j else i)) H) dMin2 := cd_II fun i j H Q q => ⟨i, j, rfl, q⟩
/-- the items of what is iterated at once -/
def itemsOf (L : DH) : D → Option (List D)
  | .tup xs => some xs
  | .lro xs => some xs
  | .ref a => match L a with | some (.lst xs) => some xs | _ => none
  | _ => none
def lstOf (L : DH) : D → Option (List D)
  | .lro xs => some xs
  | .ref a => match L a with | some (.lst xs) => some xs | _ => none
  | _ => none
theorem lstOf_rep {H : Hp} {L : DH} {d : D} {ds : List D} {v : V} (hr : HR K H L) (e : lstOf L d = some ds) (r : Rep K H d v) : ∃ a vs, v = .ref a ∧ SqL K H a vs ∧ RepL K H ds vs := by
  cases d with
  | lro xs => cases e; obtain ⟨a, vs, e1, s1, r1⟩ := r; exact ⟨a, vs, e1, s1.sq, r1⟩
  | ref a =>
    have e : (match L a with | some (.lst xs) => some xs | _ => none) = some ds := e
    cases q : L a with
    | none => rw [q] at e; cases e
    | some o =>
      cases o with
      | dct _ => rw [q] at e; cases e
      | dtp _ => rw [q] at e; cases e
      | obj _ _ => rw [q] at e; cases e
      | lst xs =>
      rw [q] at e; cases e
      obtain ⟨vs, g1, r1⟩ := hr a _ q
      exact ⟨a, vs, r, SqL.of g1, r1⟩
  | _ => cases e
def dSum : RDA := fun ds L Q => ∃ (d : D) (ns : List Int), ds = [d] ∧ lstOf L d = some (ns.map D.int) ∧ Q (.int ns.sum) L
theorem cd_sum : CallD K (rSum K) dSum := fun H L ds xs Qd Q r hr ⟨d, ns, e, h, q⟩ k => by
  subst e
  obtain ⟨v, e, e1⟩ := r.one_inv
  obtain ⟨a, vs, e2, s, r1⟩ := lstOf_rep hr h e1
  subst e e2
  rw [repL_ints r1] at s
  exact ⟨a, ns, rfl, s, k _ L _ H q rfl hr .refl⟩
def dMaxL : RDA := fun ds L Q => ∃ (d : D) (ns : List Int), ds = [d] ∧ lstOf L d = some (ns.map D.int) ∧ 0 < ns.length ∧ ∀ m, m ∈ ns → (∀ y, y ∈ ns → y ≤ m) → Q (.int m) L
theorem cd_maxL : CallD K (rMax K) dMaxL := fun H L ds xs Qd Q r hr ⟨d, ns, e, h, hn, q⟩ k => by
  subst e
  obtain ⟨v, e, e1⟩ := r.one_inv
  obtain ⟨a, vs, e2, s, r1⟩ := lstOf_rep hr h e1
  subst e e2
  rw [repL_ints r1] at s
  exact ⟨a, ns, rfl, s, hn, fun m h1 h2 => k _ L _ H (q m h1 h2) rfl hr .refl⟩
def dMinL : RDA := fun ds L Q => ∃ (d : D) (ns : List Int), ds = [d] ∧ lstOf L d = some (ns.map D.int) ∧ 0 < ns.length ∧ ∀ m, m ∈ ns → (∀ y, y ∈ ns → m ≤ y) → Q (.int m) L
theorem cd_minL : CallD K (rMin K) dMinL := fun H L ds xs Qd Q r hr ⟨d, ns, e, h, hn, q⟩ k => by
  subst e
  obtain ⟨v, e, e1⟩ := r.one_inv
  obtain ⟨a, vs, e2, s, r1⟩ := lstOf_rep hr h e1
  subst e e2
  rw [repL_ints r1] at s
  exact ⟨a, ns, rfl, s, hn, fun m h1 h2 => k _ L _ H (q m h1 h2) rfl hr .refl⟩
def dAll : RDA := fun ds L Q => ∃ (d : D) (bs : List Bool), ds = [d] ∧ lstOf L d = some (bs.map D.bl) ∧ Q (.bl (bs.all id)) L
theorem cd_all : CallD K (rAll K) dAll := fun H L ds xs Qd Q r hr ⟨d, ns, e, h, q⟩ k => by
  subst e
  obtain ⟨v, e, e1⟩ := r.one_inv
  obtain ⟨a, vs, e2, s, r1⟩ := lstOf_rep hr h e1
  subst e e2
  rw [repL_bls r1] at s
  exact ⟨a, ns, rfl, s, k _ L _ H q rfl hr .refl⟩
def dAny : RDA := fun ds L Q => ∃ (d : D) (bs : List Bool), ds = [d] ∧ lstOf L d = some (bs.map D.bl) ∧ Q (.bl (bs.any id)) L
theorem cd_any : CallD K (rAny K) dAny := fun H L ds xs Qd Q r hr ⟨d, ns, e, h, q⟩ k => by
  subst e
  obtain ⟨v, e, e1⟩ := r.one_inv
  obtain ⟨a, vs, e2, s, r1⟩ := lstOf_rep hr h e1
  subst e e2
  rw [repL_bls r1] at s
  exact ⟨a, ns, rfl, s, k _ L _ H q rfl hr .refl⟩
end
end D2

set_option Elab.async false
set_option linter.all false
set_option maxRecDepth 100000
set_option maxHeartbeats 1000000
namespace D2
open PySem PySem.Spec PyProof.Rows L2
/-! ### equality -/
def optAll {α β : Type} (f : α → Option β) : List α → Option (List β)
  | [] => some []
  | x :: xs => match f x with
    | none => none
    | some y => match optAll f xs with
      | none => none
      | some ys => some (y :: ys)
/-- the data that a value reads as -/
def pyL (L : DH) : Nat → D → Option PyData
  | _, .non => some .none
  | _, .bl b => some (.bool b)
  | _, .int i => some (.int i)
  | _, .str x => some (.str x)
  | 0, .tup _ => none
  | 0, .lro _ => none
  | 0, .ref _ => none
  | _, .exc _ _ _ _ _ => none
  | n + 1, .tup ds => (optAll (pyL L n) ds).map PyData.tuple
  | n + 1, .lro ds => (optAll (pyL L n) ds).map PyData.list
  | n + 1, .ref a => match L a with
    | some (.lst ds) => (optAll (pyL L n) ds).map PyData.list
    | _ => none
section
variable {K : PySem.W.Frag} {H : Hp} {L : DH}
theorem optAll_cons {α β : Type} {f : α → Option β} {x : α} {xs : List α} {r : List β} (h : optAll f (x :: xs) = some r) : ∃ y ys, f x = some y ∧ optAll f xs = some ys ∧ r = y :: ys := by
  unfold optAll at h
  cases e : f x with
  | none => rw [e] at h; cases h
  | some y =>
    rw [e] at h
    cases e2 : optAll f xs with
    | none => rw [e2] at h; cases h
    | some ys => rw [e2] at h; cases h; exact ⟨y, ys, rfl, rfl, rfl⟩
theorem dpAll_of {n : Nat} (ih : ∀ (d : D) (v : V) (p : PyData), pyL L n d = some p → Rep K H d v → Dp K H v p ∧ p.canLay0 = true ∧ p.depth ≤ n + 1) :
    ∀ (ds : List D) (vs : List V) (ps : List PyData), optAll (pyL L n) ds = some ps → RepL K H ds vs → DpAll K H vs ps ∧ PyData.canLayAll0 ps = true ∧ PyData.depthAll ps ≤ n + 1
  | [], _, _, h, r => by
    cases h
    cases (show _ = [] from r)
    exact ⟨.nil, rfl, Nat.zero_le _⟩
  | d :: ds, _, _, h, ⟨v, vr, e, rv, rr⟩ => by
    obtain ⟨p, ps, h1, h2, e2⟩ := optAll_cons h
    subst e e2
    obtain ⟨a1, a2, a3⟩ := ih d v p h1 rv
    obtain ⟨b1, b2, b3⟩ := dpAll_of ih ds vr ps h2 rr
    refine ⟨.cons a1 b1, by unfold PyData.canLayAll0; rw [a2, b2]; rfl, ?_⟩
    unfold PyData.depthAll
    exact Nat.max_le.mpr ⟨a3, b3⟩
theorem dp_of (hr : HR K H L) : ∀ (n : Nat) (d : D) (v : V) (p : PyData), pyL L n d = some p → Rep K H d v → Dp K H v p ∧ p.canLay0 = true ∧ p.depth ≤ n + 1 := fun n => by
  induction n with
  | zero =>
    intro d v p h r
    cases d with
    | non => cases h; cases (show v = _ from r); exact ⟨.non, rfl, by decide⟩
    | bl b => cases h; cases (show v = _ from r); exact ⟨.bl b, rfl, by simp [PyData.depth]⟩
    | int b => cases h; cases (show v = _ from r); exact ⟨.int b, rfl, by simp [PyData.depth]⟩
    | str b => cases h; cases (show v = _ from r.1); exact ⟨.str b, r.2, by simp [PyData.depth]⟩
    | tup b => cases h
    | lro b => cases h
    | ref b => cases h
    | exc _ _ _ _ _ => cases h
  | succ n ih =>
    intro d v p h r
    cases d with
    | non => cases h; cases (show v = _ from r); exact ⟨.non, rfl, by simp [PyData.depth]⟩
    | bl b => cases h; cases (show v = _ from r); exact ⟨.bl b, rfl, by simp [PyData.depth]⟩
    | int b => cases h; cases (show v = _ from r); exact ⟨.int b, rfl, by simp [PyData.depth]⟩
    | str b => cases h; cases (show v = _ from r.1); exact ⟨.str b, r.2, by simp [PyData.depth]⟩
    | tup ds =>
      obtain ⟨a, vs, e, s, rl⟩ := r
      have h : (optAll (pyL L n) ds).map PyData.tuple = some p := h
      obtain ⟨ps, h1, e1⟩ := Option.map_eq_some_iff.mp h
      obtain ⟨b1, b2, b3⟩ := dpAll_of ih ds vs ps h1 rl
      subst e e1
      exact ⟨.tup s b1, b2, by unfold PyData.depth; omega⟩
    | lro ds =>
      obtain ⟨a, vs, e, s, rl⟩ := r
      have h : (optAll (pyL L n) ds).map PyData.list = some p := h
      obtain ⟨ps, h1, e1⟩ := Option.map_eq_some_iff.mp h
      obtain ⟨b1, b2, b3⟩ := dpAll_of ih ds vs ps h1 rl
      subst e e1
      exact ⟨.lst s.sq b1, b2, by unfold PyData.depth; omega⟩
    | ref a =>
      cases (show v = _ from r)
      have h : (match L a with | some (.lst ds) => (optAll (pyL L n) ds).map PyData.list | _ => none) = some p := h
      cases q : L a with
      | none => rw [q] at h; cases h
      | some o =>
        cases o with
        | dct _ => rw [q] at h; cases h
        | dtp _ => rw [q] at h; cases h
        | obj _ _ => rw [q] at h; cases h
        | lst ds =>
        rw [q] at h
        obtain ⟨vs, g1, rl⟩ := hr a _ q
        obtain ⟨ps, h1, e1⟩ := Option.map_eq_some_iff.mp h
        obtain ⟨b1, b2, b3⟩ := dpAll_of ih ds vs ps h1 rl
        subst e1
        exact ⟨.lst (SqL.of g1) b1, b2, by unfold PyData.depth; omega⟩
    | exc _ _ _ _ _ => cases h
def eqD (L : DH) (x y : D) : Option Bool := match pyL L 60 x with
  | none => none
  | some p => match pyL L 60 y with
    | none => none
    | some q => some (PyData.eqv p q)
def dEq : RD2 := fun x y L Q => ∃ b, eqD L x y = some b ∧ Q (.bl b) L
def dNe : RD2 := fun x y L Q => ∃ b, eqD L x y = some b ∧ Q (.bl (!b)) L
theorem eqD_some {x y : D} {b : Bool} (h : eqD L x y = some b) : ∃ p q, pyL L 60 x = some p ∧ pyL L 60 y = some q ∧ b = PyData.eqv p q := by
  unfold eqD at h
  cases e : pyL L 60 x with
  | none => rw [e] at h; cases h
  | some p =>
    rw [e] at h
    cases e2 : pyL L 60 y with
    | none => rw [e2] at h; cases h
    | some q => rw [e2] at h; cases h; exact ⟨p, q, rfl, rfl, rfl⟩
theorem shaped_of {p : PyData} (h1 : p.canLay0 = true) (h2 : p.depth ≤ 61) : SeqAt.shaped p = true := by
  unfold SeqAt.shaped
  rw [h1, decide_eq_true (show p.depth ≤ 64 by omega)]
  rfl
theorem opd_eq : OpD K (rEqD K) dEq := fun H L d e x y Qd Q rx ry hr ⟨b, h, q⟩ k => by
  obtain ⟨p1, p2, h1, h2, e⟩ := eqD_some h
  obtain ⟨a1, a2, a3⟩ := dp_of hr 60 _ _ _ h1 rx
  obtain ⟨b1, b2, b3⟩ := dp_of hr 60 _ _ _ h2 ry
  subst e
  exact ⟨p1, p2, a1, b1, shaped_of a2 a3, shaped_of b2 b3, k _ L _ H q rfl hr .refl⟩
theorem opd_ne : OpD K (rNeD K) dNe := fun H L d e x y Qd Q rx ry hr ⟨b, h, q⟩ k => by
  obtain ⟨p1, p2, h1, h2, e⟩ := eqD_some h
  obtain ⟨a1, a2, a3⟩ := dp_of hr 60 _ _ _ h1 rx
  obtain ⟨b1, b2, b3⟩ := dp_of hr 60 _ _ _ h2 ry
  subst e
  exact ⟨p1, p2, a1, b1, shaped_of a2 a3, shaped_of b2 b3, k _ L _ H q rfl hr .refl⟩
end
/-! in -/
def rInP (K : PySem.W.Frag) (neg : Bool) : R2 := fun x y H Q => ∃ ds d, (Dp K H y (.list ds) ∨ Dp K H y (.tuple ds)) ∧ Dp K H x d ∧ PyData.canLayAll0 ds = true ∧ d.canLay0 = true ∧ d.depth ≤ 61 ∧
  Q (.bl (neg.xor (ds.any fun y => PyData.eqv y d))) H
theorem op_inP {X : Cx} (hu : X.A.units + 64 < cLine) : OpR X (compareOp .In) (rInP X.K false) := by
  intro pins s σ H x y v u Q I rx ry h
  obtain ⟨ds, d, hy, hx, c1, c2, dd, q⟩ := h
  have q : Q (.bl (ds.any fun y => PyData.eqv y d)) H := by simpa using q
  obtain ⟨as, r1⟩ := Dp.reads I d x v hx rx
  rcases hy with hy | hy
  · obtain ⟨bs, r2⟩ := Dp.reads I _ y u hy ry
    exact SeqAt.in_list_reads r2 r1 c1 c2 (by have := Nat.min_le_right (PyData.depthAll ds) d.depth; omega) ⟨.bl _, H, I, rfl, q⟩
  · obtain ⟨bs, r2⟩ := Dp.reads I _ y u hy ry
    exact SeqAt.in_tuple_reads r2 r1 c1 c2 (by have := Nat.min_le_right (PyData.depthAll ds) d.depth; omega) ⟨.bl _, H, I, rfl, q⟩
theorem op_ninP {X : Cx} (hu : X.A.units + 64 < cLine) : OpR X (compareOp .NotIn) (rInP X.K true) := by
  intro pins s σ H x y v u Q I rx ry h
  obtain ⟨ds, d, hy, hx, c1, c2, dd, q⟩ := h
  have q : Q (.bl (!(ds.any fun y => PyData.eqv y d))) H := by simpa using q
  obtain ⟨as, r1⟩ := Dp.reads I d x v hx rx
  rcases hy with hy | hy
  · obtain ⟨bs, r2⟩ := Dp.reads I _ y u hy ry
    exact SeqAt.notIn_list_reads r2 r1 c1 c2 (by have := Nat.min_le_right (PyData.depthAll ds) d.depth; omega) ⟨.bl _, H, I, rfl, q⟩
  · obtain ⟨bs, r2⟩ := Dp.reads I _ y u hy ry
    exact SeqAt.notIn_tuple_reads r2 r1 c1 c2 (by have := Nat.min_le_right (PyData.depthAll ds) d.depth; omega) ⟨.bl _, H, I, rfl, q⟩
def rInS (neg : Bool) : R2 := fun x y H Q => ∃ (c : Nat) (z : Str), x = .str ⟨#[c]⟩ ∧ y = .str z ∧ Q (.bl (neg.xor (decide (c ∈ z.cps.toList)))) H
theorem op_inS {X : Cx} : OpR X (compareOp .In) (rInS false) := fun pins s σ H x y v u Q I rx ry ⟨c, z, e1, e2, q⟩ => op_in_sign pins s σ H x y v u Q I rx ry ⟨c, z, e1, e2, by simpa using q⟩
theorem op_ninS {X : Cx} : OpR X (compareOp .NotIn) (rInS true) := fun pins s σ H x y v u Q I rx ry ⟨c, z, e1, e2, q⟩ => op_notIn_sign pins s σ H x y v u Q I rx ry ⟨c, z, e1, e2, by simpa using q⟩
/-- x in y: a sign in a text; an item of a list, a tuple -/
def inD (L : DH) (x y : D) : Option Bool := match y with
  | .str z => (match x with
    | .str s => (match s.cps.toList with
      | [c] => some (decide (c ∈ z.cps.toList))
      | _ => none)
    | _ => none)
  | y => match itemsOf L y with
    | none => none
    | some ys => match optAll (pyL L 59) ys with
      | none => none
      | some ps => match pyL L 60 x with
        | none => none
        | some p => some (ps.any fun q => PyData.eqv q p)
def dIn (neg : Bool) : RD2 := fun x y L Q => ∃ b, inD L x y = some b ∧ Q (.bl (neg.xor b)) L
theorem itemsOf_py {K : PySem.W.Frag} {H : Hp} {L : DH} (hr : HR K H L) {y : D} {ys : List D} {ps : List PyData} {v : V} (h : itemsOf L y = some ys) (h2 : optAll (pyL L 59) ys = some ps) (r : Rep K H y v) :
    (Dp K H v (.list ps) ∨ Dp K H v (.tuple ps)) ∧ PyData.canLayAll0 ps = true := by
  cases y with
  | tup xs =>
    cases h
    obtain ⟨a1, a2, a3⟩ := dp_of hr 60 (.tup ys) v (.tuple ps) (by show (optAll (pyL L 59) ys).map PyData.tuple = _; rw [h2]; rfl) r
    exact ⟨.inr a1, a2⟩
  | lro xs =>
    cases h
    obtain ⟨a1, a2, a3⟩ := dp_of hr 60 (.lro ys) v (.list ps) (by show (optAll (pyL L 59) ys).map PyData.list = _; rw [h2]; rfl) r
    exact ⟨.inl a1, a2⟩
  | ref a =>
    have h : (match L a with | some (.lst xs) => some xs | _ => none) = some ys := h
    cases q : L a with
    | none => rw [q] at h; cases h
    | some o =>
      cases o with
      | dct _ => rw [q] at h; cases h
      | dtp _ => rw [q] at h; cases h
      | obj _ _ => rw [q] at h; cases h
      | lst xs =>
      rw [q] at h; cases h
      obtain ⟨a1, a2, a3⟩ := dp_of hr 60 (.ref a) v (.list ps) (by
        show (match L a with | some (.lst ds) => (optAll (pyL L 59) ds).map PyData.list | _ => none) = _
        rw [q]; show (optAll (pyL L 59) ys).map PyData.list = _; rw [h2]; rfl) r
      exact ⟨.inl a1, a2⟩
  | _ => cases h
theorem opd_in {K : PySem.W.Frag} (neg : Bool) : OpD K (fun x y H Q => rInS neg x y H Q ∨ rInP K neg x y H Q) (dIn neg) := fun H L d e x y Qd Q rx ry hr ⟨b, h, q⟩ k => by
  have core : ∀ ys, itemsOf L e = some ys → (match optAll (pyL L 59) ys with
      | none => none
      | some ps => match pyL L 60 d with
        | none => none
        | some p => some (ps.any fun q => PyData.eqv q p)) = some b → rInP K neg x y H Q := by
    intro ys h1 h
    cases h2 : optAll (pyL L 59) ys with
    | none => rw [h2] at h; cases h
    | some ps =>
      rw [h2] at h
      cases h3 : pyL L 60 d with
      | none => rw [h3] at h; cases h
      | some p =>
        rw [h3] at h
        cases h
        obtain ⟨a1, a2⟩ := itemsOf_py hr h1 h2 ry
        obtain ⟨b1, b2, b3⟩ := dp_of hr 60 _ _ _ h3 rx
        exact ⟨ps, p, a1, b1, a2, b2, b3, k _ L _ H q rfl hr .refl⟩
  cases e with
  | str z =>
    cases d with
    | str s =>
      have h : (match s.cps.toList with | [c] => some (decide (c ∈ z.cps.toList)) | _ => none) = some b := h
      match hs : s.cps.toList with
      | [] => rw [hs] at h; cases h
      | c :: c2 :: r => rw [hs] at h; cases h
      | [c] =>
        rw [hs] at h
        cases h
        have es : s = ⟨#[c]⟩ := by
          have : s.cps = #[c] := by apply Array.toList_inj.mp; rw [hs]
          cases s; simp_all
        subst es
        exact .inl ⟨c, z, rx.1, ry.1, k _ L _ H q rfl hr .refl⟩
    | _ => cases h
  | tup ys => exact .inr (core ys rfl h)
  | lro ys => exact .inr (core ys rfl h)
  | ref a =>
    have h : (match itemsOf L (.ref a) with
      | none => none
      | some ys => match optAll (pyL L 59) ys with
        | none => none
        | some ps => match pyL L 60 d with
          | none => none
          | some p => some (ps.any fun q => PyData.eqv q p)) = some b := h
    cases h1 : itemsOf L (.ref a) with
    | none => rw [h1] at h; cases h
    | some ys => rw [h1] at h; exact .inr (core ys h1 h)
  | _ => cases h
/-! ### isinstance -/
inductive Ty where
  | int | bool | str | tup | lst
deriving DecidableEq
def Ty.nm : Ty → String
  | .int => "int" | .bool => "bool" | .str => "str" | .tup => "tuple" | .lst => "list"
def isA (L : DH) : D → Ty → Option Bool
  | .non, _ => some false
  | .bl _, t => some (decide (t = .int ∨ t = .bool))
  | .int _, t => some (decide (t = .int))
  | .str _, t => some (decide (t = .str))
  | .tup _, t => some (decide (t = .tup))
  | .lro _, t => some (decide (t = .lst))
  | .exc _ _ _ _ _, _ => none
  | .ref a, t => match L a with
    | some (.lst _) => some (decide (t = .lst))
    | _ => none
section
variable {K : PySem.W.Frag} {H : Hp} {L : DH}
theorem kit_all (t : Ty) : kitB "NoneType" t.nm = some false ∧ kitB "bool" t.nm = some (decide (t = .int ∨ t = .bool)) ∧ kitB "int" t.nm = some (decide (t = .int)) ∧
    kitB "str" t.nm = some (decide (t = .str)) ∧ kitB "tuple" t.nm = some (decide (t = .tup)) ∧ kitB "list" t.nm = some (decide (t = .lst)) := by
  cases t <;> decide +kernel
theorem tyX_tup {a : Addr} {vs : List V} (s : SqT K H a vs) : TyX K H (.ref a) (.type "tuple") := by
  rcases s with (h | ⟨o, h⟩) | ⟨o, its, n, h, c, _⟩
  · exact .base (.tup h)
  · exact .fTuple h
  · exact .kTuple h c
theorem tyX_fz {a : Addr} {vs : List V} (s : FzL K H a vs) : TyX K H (.ref a) (.type "list") := by
  rcases s with ⟨o, h⟩ | ⟨o, its, n, h, c, _⟩
  · exact .base (.frz h)
  · exact .kList h c
theorem isA_ok (hr : HR K H L) {d : D} {v : V} {t : Ty} {b : Bool} (h : isA L d t = some b) (r : Rep K H d v) : ∃ u, TyX K H v u ∧ PySem.W.kitOne K u (.type t.nm) = some b := by
  obtain ⟨k1, k2, k3, k4, k5, k6⟩ := kit_all t
  cases d with
  | non => cases h; cases (show v = _ from r); exact ⟨_, .base .non, kit_ty k1⟩
  | bl x => cases h; cases (show v = _ from r); exact ⟨_, .base (.bl x), kit_ty k2⟩
  | int x => cases h; cases (show v = _ from r); exact ⟨_, .base (.int x), kit_ty k3⟩
  | str x => cases h; cases (show v = _ from r.1); exact ⟨_, .base (.str x), kit_ty k4⟩
  | tup ds => cases h; obtain ⟨a, vs, e, s, rl⟩ := r; subst e; exact ⟨_, tyX_tup s, kit_ty k5⟩
  | lro ds => cases h; obtain ⟨a, vs, e, s, rl⟩ := r; subst e; exact ⟨_, tyX_fz s, kit_ty k6⟩
  | ref a =>
    have h : (match L a with | some (.lst _) => some (decide (t = .lst)) | _ => none) = some b := h
    cases q : L a with
    | none => rw [q] at h; cases h
    | some o =>
      cases o with
      | dct _ => rw [q] at h; cases h
      | dtp _ => rw [q] at h; cases h
      | obj _ _ => rw [q] at h; cases h
      | lst xs =>
      rw [q] at h; cases h
      obtain ⟨vs, g⟩ := (hr a _ q).lst_of
      cases (show v = _ from r)
      exact ⟨_, .base (.lst g), kit_ty k6⟩
  | exc _ _ _ _ _ => cases h
end
def dIsi (t : Ty) (da : DE) : DE := fun s L Q E => da s L (fun d L1 => ∃ b, isA L1 d t = some b ∧ Q (.bl b) L1) E
def isAny (L : DH) (d : D) : List Ty → Option Bool
  | [] => some false
  | t :: ts => match isA L d t with
    | some true => some true
    | some false => isAny L d ts
    | none => none
def dIsiT (ts : List Ty) (da : DE) : DE := fun s L Q E => da s L (fun d L1 => ∃ b, isAny L1 d ts = some b ∧ Q (.bl b) L1) E
section
variable {X : Cx} {W : WX} {pos : Pos}
theorem q_isi {a : Expr} {da : DE} {p p2 : Pos} {tn : Str} (t : Ty) (hm : X.mg "isinstance" = none) (ht : X.mg tn = none) (hb : bootBuiltins tn = some (.type t.nm)) (ha : QE X W a da) (hg : Gl X "isinstance" := by rfl) (hg2 : Gl X tn := by rfl) (hn : tn ≠ "__name__" := by decide) (hd : (tn == ("__debug__" : Str)) = false := by decide)
    (he : starEach [a, .Name tn p2] X.env = (false, eval a X.env) :: starEach [.Name tn p2] X.env := by rfl) (he2 : starEach [.Name tn p2] X.env = (false, eval (.Name tn p2) X.env) :: starEach [] X.env := by rfl) (hpl : (backTo pos (starEach [.Name tn p2] X.env)).any (·.1) = false := by rfl) :
    QE X W (.Call (.Name "isinstance" p) [a, .Name tn p2] [] pos) (dIsi t da) := by
  have hv : bootBuiltins "isinstance" = some (.builtin "isinstance") := by decide +kernel
  refine ⟨PE_mono (pe_callB (call_isi) hg hm hv (pa_cons ha.pe (pa_cons (pe_bltn (v := .ty t.nm) hg2 ht hb rfl hn hd) pa_nil he2) he) (by decide) (by decide) he hpl) fun σ H Q ⟨s, L, Qd, Ed, hs, hr, q, hq, lp⟩ => ?_⟩
  refine liftE_bind hs hr lp q fun d L1 x H1 ⟨b, e, q1⟩ r1 hr1 k1 hs1 t1 lp1 => ?_
  obtain ⟨u, ty, kk⟩ := isA_ok hr1 e r1
  exact ⟨x, .ty t.nm, u, .type t.nm, b, rfl, .ty _, ty, kk, hq _ L1 _ H1 q1 rfl hr1 k1⟩
end
/-! ### methods -/
abbrev RDM := D → List D → DH → DK → Prop
def MtD (K : PySem.W.Frag) (r : V → List V → Hp → VK → Prop) (rD : RDM) : Prop := ∀ (H : Hp) (L : DH) (d : D) (ds : List D) (x : V) (xs : List V) (Qd : DK) (Q : VK), Rep K H d x → RepL K H ds xs → HR K H L → rD d ds L Qd →
  (∀ d' L' v H', Qd d' L' → Rep K H' d' v → HR K H' L' → Kp H L H' L' → Q v H') → r x xs H Q
/-- is it a list, a text -/
def chkOk (K : PySem.W.Frag) (T : String) (c : D → DH → Prop) : Prop := ∀ (H : Hp) (L : DH) (d : D) (v : V), HR K H L → c d L → Rep K H d v → tyV K T v H
def chkL : D → DH → Prop := fun d L => ∃ xs, lstOf L d = some xs
def chkS : D → DH → Prop := fun d _ => ∃ z, d = .str z
theorem chkL_ok {K : PySem.W.Frag} : chkOk K "list" chkL := fun H L d v hr ⟨xs, h⟩ r => by
  obtain ⟨a, vs, e, s, _⟩ := lstOf_rep hr h r
  subst e
  exact .inl ⟨rfl, vs, s⟩
theorem chkS_ok {K : PySem.W.Frag} : chkOk K "str" chkS := fun H L d v hr ⟨z, e⟩ r => by
  subst e
  cases (show v = _ from r.1)
  rfl
def dBM (c : D → DH → Prop) (rD : RDM) (do_ : DE) (t : DA) : DE := fun s L Q E => do_ s L (fun d L1 => c d L1 ∧ t s L1 (fun ds L2 => rD d ds L2 Q) E) E
def dBM0 (c : D → DH → Prop) (rD : RDM) (do_ : DE) : DE := fun s L Q E => do_ s L (fun d L1 => c d L1 ∧ rD d [] L1 Q) E
section
variable {X : Cx} {W : WX} {pos : Pos}
theorem q_bm {T : String} {name : Str} {id : String} {r : V → List V → Hp → VK → Prop} {rD : RDM} {c : D → DH → Prop} {o e : Expr} {es : List Expr} {do_ : DE} {t : DA} {apos cpos : Pos} (pa : PlainAttrs T) (slot : Slot T name id) (hty : typeOf (.builtin id) = pure (.type "method_descriptor")) (hm : MtR X id r)
    (hc : chkOk X.K T c) (h : MtD X.K r rD) (ho : QE X W o do_) (ha : QA X W (e :: es) t) (hbase : attributeBase o name X.env (eval o X.env) = eval o X.env := by rfl)
    (hfew : ((backTo cpos (starEach (e :: es) X.env)).all (fun x => !x.1) && (backToKw cpos (keywordEach [] X.env)).all (fun x => x.1.isSome)
      && decide ((e :: es).length + ([] : List Keyword).length + (if ([] : List Keyword).isEmpty then 0 else 1) < 30)) = true := by rfl)
    (hline : (apos.endLine == cpos.line) = true := by rfl) (hs : starEach (e :: es) X.env = (false, eval e X.env) :: starEach es X.env := by rfl) (hplain : (backTo cpos (starEach es X.env)).any (·.1) = false := by rfl) :
    QE X W (.Call (.Attribute o name apos) (e :: es) [] cpos) (dBM c rD do_ t) := by
  refine ⟨PE_mono (pe_bm pa slot hty hm ho.pe ha.pa hbase hfew hline hs hplain) fun σ H Q ⟨s, L, Qd, Ed, hs, hr, q, hq, lp⟩ => ?_⟩
  refine liftE_bind hs hr lp q fun d L1 x H1 ⟨hc1, q1⟩ r1 hr1 k1 hs1 t1 lp1 => ⟨hc H1 L1 d x hr1 hc1 r1, ?_⟩
  refine liftA_bind hs1 hr1 lp1 q1 fun ds L2 xs H2 q2 r2 hr2 k2 hs2 t2 lp2 => ?_
  exact h H2 L2 d ds x xs Qd Q (Rep.tk t2 _ _ r1) r2 hr2 q2 fun d' L' v H' a b c k => hq d' L' v H' a b c ((k1.trans k2).trans k)
theorem q_bm0 {T : String} {name : Str} {id : String} {r : V → List V → Hp → VK → Prop} {rD : RDM} {c : D → DH → Prop} {o : Expr} {do_ : DE} {apos cpos : Pos} (pa : PlainAttrs T) (slot : Slot T name id) (hty : typeOf (.builtin id) = pure (.type "method_descriptor")) (hm : MtR X id r)
    (hc : chkOk X.K T c) (h : MtD X.K r rD) (ho : QE X W o do_) (hbase : attributeBase o name X.env (eval o X.env) = eval o X.env := by rfl) (hline : (apos.endLine == cpos.line) = true := by rfl) :
    QE X W (.Call (.Attribute o name apos) [] [] cpos) (dBM0 c rD do_) := by
  refine ⟨PE_mono (pe_bm0 pa slot hty hm ho.pe hbase hline) fun σ H Q ⟨s, L, Qd, Ed, hs, hr, q, hq, lp⟩ => ?_⟩
  refine liftE_bind hs hr lp q fun d L1 x H1 ⟨hc1, q1⟩ r1 hr1 k1 hs1 t1 lp1 => ⟨hc H1 L1 d x hr1 hc1 r1, ?_⟩
  exact h H1 L1 d [] x [] Qd Q r1 rfl hr1 q1 fun d' L' v H' a b c k => hq d' L' v H' a b c (k1.trans k)
end
section
variable {K : PySem.W.Frag}
def marg (f : D → D → DH → DK → Prop) : RDM := fun d ds L Q => one (f d) ds L Q
theorem mt_arg {r : V → List V → Hp → VK → Prop} {f : D → D → DH → DK → Prop} (h : ∀ (H : Hp) (L : DH) (d e : D) (x y : V) (Qd : DK) (Q : VK), Rep K H d x → Rep K H e y → HR K H L → f d e L Qd →
    (∀ d' L' v H', Qd d' L' → Rep K H' d' v → HR K H' L' → Kp H L H' L' → Q v H') → r x [y] H Q) : MtD K r (marg f) := fun H L d ds x xs Qd Q rx rr hr q k => by
  cases ds with
  | nil => exact q.elim
  | cons e t =>
    cases t with
    | nil => obtain ⟨v, e, rv⟩ := rr.one_inv; subst e; exact h H L d _ x v Qd Q rx rv hr q k
    | cons _ _ => exact q.elim
def dAppend1 : D → D → DH → DK → Prop := fun d e L Q => match d with
  | .ref a => ∃ xs, L a = some (.lst xs) ∧ xs.length < 16777216 ∧ Q .non (upd L a (.lst (xs ++ [e])))
  | _ => False
theorem md_append : MtD K rAppend (marg dAppend1) := mt_arg fun H L d e x y Qd Q rx ry hr q k => by
  cases d with
  | ref a =>
    obtain ⟨xs, h1, hl, q⟩ := q
    obtain ⟨vs, g1, r1⟩ := hr a _ h1
    have z := hr.set h1 (r1.append (.one ry))
    exact ⟨a, vs, y, rx, rfl, g1, by rw [← r1.length]; exact line_lt hl, k _ _ _ _ q rfl z.1 z.2⟩
  | _ => exact False.elim q
def dExtend1 : D → D → DH → DK → Prop := fun d e L Q => match d, e with
  | .ref a, .ref b => ∃ xs ys, L a = some (.lst xs) ∧ L b = some (.lst ys) ∧ xs.length + ys.length ≤ 16777216 ∧ Q .non (upd L a (.lst (xs ++ ys)))
  | _, _ => False
theorem md_extend : MtD K rExtend (marg dExtend1) := mt_arg fun H L d e x y Qd Q rx ry hr q k => by
  cases d with
  | ref a =>
    cases e with
    | ref b =>
      obtain ⟨xs, ys, h1, h2, hl, q⟩ := q
      obtain ⟨vs, g1, r1⟩ := hr a _ h1
      obtain ⟨us, g2, r2⟩ := hr b _ h2
      cases (show y = _ from ry)
      have z := hr.set h1 (r1.append r2)
      exact ⟨a, b, vs, us, rx, rfl, g1, g2, by rw [← r1.length, ← r2.length]; exact line_of hl, k _ _ _ _ q rfl z.1 z.2⟩
    | _ => exact False.elim q
  | _ => exact False.elim q
def dPop0 : RDM := fun d ds L Q => match ds with
  | [] => (match d with
    | .ref a => ∃ xs y, L a = some (.lst xs) ∧ xs[xs.length - 1]? = some y ∧ Q y (upd L a (.lst xs.dropLast))
    | _ => False)
  | _ => False
theorem md_pop0 : MtD K rPop dPop0 := fun H L d ds x xs Qd Q rx rr hr q k => by
  cases ds with
  | nil =>
    cases d with
    | ref a =>
      obtain ⟨xs, y, h1, h2, q⟩ := q
      obtain ⟨vs, g1, r1⟩ := hr a _ h1
      obtain ⟨v, e, rv⟩ := r1.get h2
      have z := hr.set h1 r1.dropLast
      have hl := r1.length
      exact ⟨a, vs, v, rx, rr, g1, by rw [← hl]; exact e, k _ _ _ _ q (Rep.tk (z.2.tk hr) _ _ rv) z.1 z.2⟩
    | _ => exact False.elim q
  | cons _ _ => exact False.elim q
def dPopAt1 : D → D → DH → DK → Prop := fun d e L Q => match d, e with
  | .ref a, .int i => ∃ xs k y, L a = some (.lst xs) ∧ -(2 ^ 63) ≤ i ∧ i < 2 ^ 63 ∧ seqIndex? i xs.length = some k ∧ xs[k]? = some y ∧ Q y (upd L a (.lst (xs.eraseIdx k)))
  | _, _ => False
theorem md_popAt : MtD K rPopAt (marg dPopAt1) := mt_arg fun H L d e x y Qd Q rx ry hr q k => by
  cases d with
  | ref a =>
    cases e with
    | int i =>
      obtain ⟨xs, j, y', h1, b1, b2, h2, h3, q⟩ := q
      obtain ⟨vs, g1, r1⟩ := hr a _ h1
      obtain ⟨v, e, rv⟩ := r1.get h3
      have z := hr.set h1 (r1.eraseIdx j)
      cases (show y = _ from ry)
      exact ⟨a, vs, i, j, v, rx, rfl, g1, b1, b2, by rw [← r1.length]; exact h2, e, k _ _ _ _ q (Rep.tk (z.2.tk hr) _ _ rv) z.1 z.2⟩
    | _ => exact False.elim q
  | _ => exact False.elim q
/-- xs.index(y), flat things -/
def flatD : D → Bool
  | .non => true | .bl _ => true | .int _ => true | .str _ => true | _ => false
def eqF : D → D → Bool
  | .non, .non => true
  | .bl a, .bl b => a == b
  | .bl a, .int b => (if a then 1 else 0) == b
  | .int a, .bl b => a == (if b then 1 else 0)
  | .int a, .int b => a == b
  | .str a, .str b => a == b
  | _, _ => false
theorem flat_rep {H : Hp} {d : D} {v : V} (f : flatD d = true) (r : Rep K H d v) : flatV v = true := by
  cases d with
  | non => cases (show v = _ from r); rfl
  | bl _ => cases (show v = _ from r); rfl
  | int _ => cases (show v = _ from r); rfl
  | str _ => cases (show v = _ from r.1); rfl
  | _ => cases f
theorem eqF_rep {H : Hp} {d e : D} {v u : V} (f : flatD d = true) (g : flatD e = true) (r : Rep K H d v) (r2 : Rep K H e u) : eqV v u = eqF d e := by
  cases d with
  | non => cases (show v = _ from r); cases e with
    | str _ => cases (show u = _ from r2.1); rfl
    | non => cases (show u = _ from r2); rfl
    | bl _ => cases (show u = _ from r2); rfl
    | int _ => cases (show u = _ from r2); rfl
    | _ => cases g
  | bl _ => cases (show v = _ from r); cases e with
    | str _ => cases (show u = _ from r2.1); rfl
    | non => cases (show u = _ from r2); rfl
    | bl _ => cases (show u = _ from r2); rfl
    | int _ => cases (show u = _ from r2); rfl
    | _ => cases g
  | int _ => cases (show v = _ from r); cases e with
    | str _ => cases (show u = _ from r2.1); rfl
    | non => cases (show u = _ from r2); rfl
    | bl _ => cases (show u = _ from r2); rfl
    | int _ => cases (show u = _ from r2); rfl
    | _ => cases g
  | str _ => cases (show v = _ from r.1); cases e with
    | str _ => cases (show u = _ from r2.1); rfl
    | non => cases (show u = _ from r2); rfl
    | bl _ => cases (show u = _ from r2); rfl
    | int _ => cases (show u = _ from r2); rfl
    | _ => cases g
  | _ => cases f
theorem RepL.get' {H : Hp} {ds : List D} {vs : List V} {i : Nat} {v : V} (h : RepL K H ds vs) (e : vs[i]? = some v) : ∃ d, ds[i]? = some d ∧ Rep K H d v := by
  have hl := h.length
  have hi : i < ds.length := by rw [hl]; exact (List.getElem?_eq_some_iff.mp e).1
  obtain ⟨u, e2, r⟩ := h.get (List.getElem?_eq_getElem hi)
  rw [e] at e2; cases e2
  exact ⟨_, List.getElem?_eq_getElem hi, r⟩
theorem flat_all {H : Hp} : ∀ {ds : List D} {vs : List V}, RepL K H ds vs → ds.all flatD = true → vs.all flatV = true
  | [], _, h, _ => by cases (show _ = [] from h); rfl
  | d :: ds, _, ⟨v, r, e, rv, rr⟩, f => by
    subst e
    rw [List.all_cons, Bool.and_eq_true] at f
    rw [List.all_cons, flat_rep f.1 rv, flat_all rr f.2]; rfl
def dIndex1 : D → D → DH → DK → Prop := fun d e L Q => ∃ xs j z, lstOf L d = some xs ∧ flatD e = true ∧ xs.all flatD = true ∧ xs[j]? = some z ∧ eqF z e = true ∧ (∀ (m : Nat) z', m < j → xs[m]? = some z' → eqF z' e = false) ∧ Q (.int (j : Nat)) L
theorem md_index : MtD K (rIndex K) (marg dIndex1) := mt_arg fun H L d e x y Qd Q rx ry hr ⟨xs, j, z, h, fe, fx, hz, he, hno, q⟩ k => by
  obtain ⟨a, vs, e1, s, rl⟩ := lstOf_rep hr h rx
  obtain ⟨v, e2, rv⟩ := rl.get hz
  have fz : flatD z = true := List.all_eq_true.mp fx z (List.mem_of_getElem? hz)
  refine ⟨a, vs, y, j, v, e1, rfl, s, flat_rep fe ry, flat_all rl fx, e2, by rw [eqF_rep fz fe rv ry]; exact he, fun m z' hm hz' => ?_, k _ L _ H q rfl hr .refl⟩
  obtain ⟨d', e3, rd⟩ := rl.get' hz'
  rw [eqF_rep (List.all_eq_true.mp fx d' (List.mem_of_getElem? e3)) fe rd ry]
  exact hno m d' hm e3
end
end D2

set_option Elab.async false
set_option linter.all false
set_option maxRecDepth 100000
set_option maxHeartbeats 1000000
namespace D2
open PySem PySem.Spec PyProof.Rows L2
/-! ### slices -/
abbrev DO_ := DSt → DH → (Option Int → DH → Prop) → XD → Prop
def liftO (M : KM) (W : WX) (t : DO_) : TO := fun σ H Q => ∃ s L Qd Ed, SR M.K H s σ ∧ HR M.K H L ∧ t s L Qd Ed ∧ (∀ o L' H', Qd o L' → HR M.K H' L' → Kp H L H' L' → Q o H') ∧ LP M W σ H L Ed
structure QO (X : Cx) (W : WX) (e : Option Expr) (t : DO_) : Prop where
  po : PO X e (liftO X.km W t)
def dNoPart : DO_ := fun _ L Q _ => Q none L
def dPart (de : DE) : DO_ := fun s L Q E => de s L (fun d L1 => match d with | .int i => Q (some i) L1 | _ => False) E
abbrev SlD := D → Option Int → Option Int → DH → DK → Prop
def SlOk (K : PySem.W.Frag) (r : V → Option Int → Option Int → Hp → VK → Prop) (rD : SlD) : Prop := ∀ (H : Hp) (L : DH) (d : D) (x : V) (lo hi : Option Int) (Qd : DK) (Q : VK), Rep K H d x → HR K H L → rD d lo hi L Qd →
  (∀ d' L' v H', Qd d' L' → Rep K H' d' v → HR K H' L' → Kp H L H' L' → Q v H') → r x lo hi H Q
def dSl (rD : SlD) (de : DE) (l h : DO_) : DE := fun s L Q E => de s L (fun d L1 => l s L1 (fun lo L2 => h s L2 (fun hi L3 => rD d lo hi L3 Q) E) E) E
section
variable {X : Cx} {W : WX} {pos p2 : Pos} {e : Expr} {de : DE}
theorem qo_none : QO X W none dNoPart := ⟨⟨fun pins s σ H Q I ⟨s', L, Qd, Ed, hs, hr, q, hq, lp⟩ => po_none.run pins s σ H Q I (hq none L H q hr .refl)⟩⟩
theorem qo_some (h : QE X W e de) : QO X W (some e) (dPart de) := ⟨⟨fun pins s σ H Q I ⟨s', L, Qd, Ed, hs, hr, q, hq, lp⟩ => (po_some h.pe).run pins s σ H Q I (liftE_bind hs hr lp q fun d L1 x H1 q1 r1 hr1 k1 hs1 t1 lp1 => by
    cases d with
    | int i => exact ⟨i, r1, hq _ L1 H1 q1 hr1 k1⟩
    | _ => exact False.elim q1)⟩⟩
theorem liftO_bind {M : KM} {σ : L2.St} {H : Hp} {da : DO_} {s : DSt} {L : DH} {Qd : Option Int → DH → Prop} {Ed : XD} {R : Option Int → Hp → Prop} (hs : SR M.K H s σ) (hr : HR M.K H L) (lp : LP M W σ H L Ed) (h : da s L Qd Ed)
    (hk : ∀ d L1 H1, Qd d L1 → HR M.K H1 L1 → Kp H L H1 L1 → SR M.K H1 s σ → TK H H1 → LP M W σ H1 L1 Ed → R d H1) : liftO M W da σ H R :=
  ⟨s, L, Qd, Ed, hs, hr, h, fun d L1 H1 q r1 k => hk d L1 H1 q r1 k (hs.tk (k.tk hr)) (k.tk hr) (lp.after k), lp⟩
theorem q_slice {r : V → Option Int → Option Int → Hp → VK → Prop} {rD : SlD} {lo hi : Option Expr} {l h : DO_} (hr : SlR X r) (hd : SlOk X.K r rD) (he : QE X W e de) (hl : QO X W lo l) (hh : QO X W hi h) : QE X W (.Subscript e (.Slice lo hi none p2) pos) (dSl rD de l h) :=
  ⟨PE_mono (pe_slice hr he.pe hl.po hh.po) fun σ H Q ⟨s, L, Qd, Ed, hs, hr, q, hq, lp⟩ => liftE_bind hs hr lp q fun d L1 x H1 q1 r1 hr1 k1 hs1 t1 lp1 =>
    liftO_bind hs1 hr1 lp1 q1 fun lo L2 H2 q2 hr2 k2 hs2 t2 lp2 => liftO_bind hs2 hr2 lp2 q2 fun hi L3 H3 q3 hr3 k3 hs3 t3 lp3 =>
      hd H3 L3 d x lo hi Qd Q (Rep.tk t3 _ _ (Rep.tk t2 _ _ r1)) hr3 q3 fun d' L' v H' a b c k => hq d' L' v H' a b c (((k1.trans k2).trans k3).trans k)⟩
end
def cut {α : Type} (xs : List α) (lo hi : Option Int) : List α := (xs.drop (HT.sIx xs.length 0 lo)).take (HT.sIx xs.length xs.length hi - HT.sIx xs.length 0 lo)
theorem cut_whole {α : Type} {xs : List α} {lo hi : Option Int} (h1 : HT.sIx xs.length 0 lo = 0) (h2 : HT.sIx xs.length xs.length hi = xs.length) : cut xs lo hi = xs := by
  unfold cut
  rw [h1, h2]
  simp
theorem getItem_tuple_whole {prog : Program} {w : World} {A : Around} {E : Value → Shared → Prop} {s : Shared} {t sl : Addr} {items : Array Value} {vl vu : Value} {lo hi : Option Int} {Q : Value → Shared → Prop} (ht : IsTup s.heap t items) (hs : s.heap.IsSliceOf sl vl vu .none) (pl : IsPart vl lo) (pu : IsPart vu hi)
    (h1 : HT.sIx items.size 0 lo = 0) (h2 : HT.sIx items.size items.size hi = items.size) (h : Q (.ref t) s) : wpAny (model prog w) A (getItem (.ref t) (.ref sl)) Q E s := by
  obtain ⟨os, hos, hcs, hds⟩ := id hs
  have hTs : s.TypeIs (.ref sl) "slice" := ⟨os, hos, hcs⟩
  unfold getItem
  try with_reducible refine wpAny_holding ?_
  first | refine wpAny_bind (wpAny_pure ?_) | skip
  refine wpAny_bind (wpAny_sequenceKey ht.typeIs (by decide) ?_)
  refine wpAny_bind (wpAny_callSpecial?_slot (name := Str.ofString "__getitem__") ht.typeIs PyProof.Rows.slot_tuple_getitem
    (wpAny_call_entry PyProof.Rows.slot_tuple_getitem ht.typeIs PyProof.Rows.entry_tuple_getitem ?_ (PyProof.Rows.args_tuple_getitem _ _)))
  show wpAny _ _ (Builtin.Tuple.tupleItemsOf (.ref t) >>= _) _ _ s
  refine wpAny_bind (tupleItemsOf_ ht ?_)
  refine wpAny_bind (wpAny_typeOf hTs ?_)
  rw [if_pos (by decide)]
  refine wpAny_bind (HT.sliceApplied_gen hs pl pu ?_)
  have hno : ((((HT.sIx items.size 0 lo : Nat) : Int) == 0 && (1 : Int) == 1 && (HT.sIx items.size items.size hi - HT.sIx items.size 0 lo) == items.size) = true) := by
    rw [h1, h2]; simp
  show wpAny _ _ (if (((HT.sIx items.size 0 lo : Nat) : Int) == 0 && (1 : Int) == 1 && (HT.sIx items.size items.size hi - HT.sIx items.size 0 lo) == items.size) = true then _ else _) _ _ s
  rw [if_pos hno]
  refine wpAny_bind (wpAny_bind (wpAny_typeOf ht.typeIs (wpAny_pure ?_)))
  rw [if_pos (by decide)]
  refine wpAny_bind (wpAny_rule ?_)
  first
    | exact wpAny_pure ⟨_, rfl, wpAny_pure h⟩
    | exact wpAny_bind (wpAny_pure ⟨_, rfl, wpAny_pure h⟩)
def rSlT0 (K : PySem.W.Frag) : V → Option Int → Option Int → Hp → VK → Prop := fun x lo hi H Q => ∃ a xs, x = .ref a ∧ SqT K H a xs ∧ HT.sIx xs.length 0 lo = 0 ∧ HT.sIx xs.length xs.length hi = xs.length ∧ Q (.ref a) H
theorem sl_tup0 {X : Cx} : SlR X (rSlT0 X.K) := by
  intro pins s σ H x v vl vu lo hi sl Q I rx hs pl pu h
  obtain ⟨a, xs, rfl, hx, h1, h2, q⟩ := h
  cases rx
  obtain ⟨its, r, ht, hz⟩ := I.tuple hx
  have hlen : its.toArray.size = xs.length := by rw [List.size_toArray]; exact r.length.symm
  refine ⟨"tuple", _, PyProof.Rows.slot_tuple_getitem.lookup, ht.typeIs, ?_⟩
  exact getItem_tuple_whole ht hs pl pu (by rw [hlen]; exact h1) (by rw [hlen]; exact h2) ⟨.ref a, H, I, rfl, q⟩
def dCut : SlD := fun d lo hi L Q => match d with
  | .tup xs => Q (.tup (cut xs lo hi)) L
  | .str z => z.length ≤ 16777216 ∧ Q (.str (cutS z lo hi)) L
  | .lro xs => ∀ p, L p = none → Q (.ref p) (upd L p (.lst (cut xs lo hi)))
  | .ref a => ∃ xs, L a = some (.lst xs) ∧ ∀ p, L p = none → Q (.ref p) (upd L p (.lst (cut xs lo hi)))
  | _ => False
abbrev rSlAll (K : PySem.W.Frag) : V → Option Int → Option Int → Hp → VK → Prop := fun x lo hi H Q => (rSlL K x lo hi H Q ∨ rSlS x lo hi H Q) ∨ rSlT0 K x lo hi H Q ∨ rSlT K x lo hi H Q
theorem sl_all {X : Cx} : SlR X (rSlAll X.K) := (sl_list.or sl_str).or (sl_tup0.or sl_tup)
section
variable {K : PySem.W.Frag} {H : Hp}
theorem RepL.cut {ds : List D} {vs : List V} (h : RepL K H ds vs) (lo hi : Option Int) : RepL K H (D2.cut ds lo hi) (cutV vs lo hi) := by
  unfold D2.cut cutV
  rw [h.length]
  exact RepL.take _ (RepL.drop _ h)
theorem strOk_cut {z : Str} (h : PyData.strOk z = true) (lo hi : Option Int) : PyData.strOk (cutS z lo hi) = true := by
  unfold PyData.strOk at *
  rw [Array.all_eq_true'] at *
  intro x hx
  refine h x ?_
  unfold cutS at hx
  have hx : x ∈ ((z.cps.toList.drop (HT.sIx z.length 0 lo)).take (HT.sIx z.length z.length hi - HT.sIx z.length 0 lo)) := by simpa using hx
  have := List.mem_of_mem_drop (List.mem_of_mem_take hx)
  simpa using this
theorem slok_all : SlOk K (rSlAll K) dCut := fun H L d x lo hi Qd Q rx hr q k => by
  cases d with
  | tup xs =>
    obtain ⟨a, vs, e, s, rl⟩ := rx
    rcases Classical.em (HT.sIx vs.length 0 lo = 0 ∧ HT.sIx vs.length vs.length hi = vs.length) with hw | hw
    · refine .inr (.inl ⟨a, vs, e, s, hw.1, hw.2, k _ L _ H q ⟨a, vs, rfl, s, ?_⟩ hr .refl⟩)
      rw [← rl.length] at hw
      rw [cut_whole hw.1 hw.2]
      exact rl
    · exact .inr (.inr ⟨a, vs, e, s, hw, fun p hp => k _ L _ _ q ⟨p, _, rfl, .inl (.inl upd_same), RepL.tk (HR.tk_new hp) _ _ (rl.cut lo hi)⟩ (hr.laid hp).1 (hr.laid hp).2⟩)
  | str z => exact .inl (.inr ⟨z, rx.1, line_of q.1, k _ L _ H q.2 ⟨rfl, strOk_cut rx.2 lo hi⟩ hr .refl⟩)
  | lro xs =>
    obtain ⟨a, vs, e, s, rl⟩ := rx
    exact .inl (.inl ⟨a, vs, e, s.sq, fun p hp => k _ _ _ _ (q p (hr.free hp)) rfl (hr.new hp (rl.cut lo hi)).1 (hr.new hp (rl.cut lo hi)).2⟩)
  | ref a =>
    obtain ⟨xs, h1, q⟩ := q
    obtain ⟨vs, g1, rl⟩ := hr a _ h1
    exact .inl (.inl ⟨a, vs, rx, SqL.of g1, fun p hp => k _ _ _ _ (q p (hr.free hp)) rfl (hr.new hp (rl.cut lo hi)).1 (hr.new hp (rl.cut lo hi)).2⟩)
  | _ => exact False.elim q
end
/-! ### comprehensions -/
def dwipe (s : DSt) : List Nat → DSt
  | [] => s
  | v :: vs => (dwipe s vs).set v none
theorem SR.wipe {K : PySem.W.Frag} {H : Hp} {s : DSt} {σ : L2.St} (h : SR K H s σ) : ∀ vs : List Nat, SR K H (dwipe s vs) (L2.wipe σ vs)
  | [] => h
  | v :: vs => SR.none (SR.wipe h vs) v _
/-- a target that writes the block's own names alone -/
def PostW (K : PySem.W.Frag) (vs : List Nat) (σ : L2.St) (H : Hp) (L : DH) (P : DSt → DH → Prop) (Q : L2.St → Hp → Prop) : Prop := ∀ s' L' σ' H', P s' L' → SR K H' s' σ' → HR K H' L' → Kp H L H' L' → L2.wipe σ' vs = L2.wipe σ vs → Q σ' H'
def liftGo (K : PySem.W.Frag) (vs : List Nat) (g : DG) (G : TG) : Prop := ∀ (d : D) (v : V) (s : DSt) (σ : L2.St) (H : Hp) (L : DH) (P : DSt → DH → Prop) (Q : L2.St → Hp → Prop), Rep K H d v → SR K H s σ → HR K H L → g d s L P (fun _ _ _ => False) →
  PostW K vs σ H L P Q → G v σ H Q
theorem wget_in {σ : L2.St} {i : Nat} : ∀ {vs : List Nat}, i ∈ vs → (L2.wipe σ vs)[i]? = if i < σ.length then some none else none
  | [], h => by cases h
  | j :: vs, h => by
    show ((L2.wipe σ vs).set j none)[i]? = _
    rw [List.getElem?_set]
    by_cases e : j = i
    · subst e
      rw [if_pos rfl, L2.wipe_length]
    · rw [if_neg e]
      rcases List.mem_cons.mp h with z | z
      · exact absurd z.symm e
      · exact wget_in z
theorem ww (σ : L2.St) (vs : List Nat) : L2.wipe (L2.wipe σ vs) vs = L2.wipe σ vs := by
  apply List.ext_getElem?
  intro i
  by_cases h : i ∈ vs
  · rw [wget_in h, wget_in h, L2.wipe_length]
  · rw [L2.wipe_out h, L2.wipe_out h]
theorem set_none_set {σ : L2.St} {i j : Nat} {v : Option V} (h : i = j) : (σ.set i v).set j none = σ.set j none := by subst h; simp
theorem wipe_set {σ : L2.St} {i : Nat} {v : Option V} : ∀ {vs : List Nat}, i ∈ vs → L2.wipe (σ.set i v) vs = L2.wipe σ vs
  | [], h => by cases h
  | j :: vs, h => by
    unfold L2.wipe
    by_cases hm : i ∈ vs
    · rw [wipe_set hm]
    · have e : i = j := by
        rcases List.mem_cons.mp h with h | h
        · exact h
        · exact absurd h hm
      subst e
      have : L2.wipe (σ.set i v) vs = (L2.wipe σ vs).set i v := by
        clear h
        induction vs with
        | nil => rfl
        | cons k vs ih =>
          have hk : i ≠ k := fun e => hm (by rw [e]; exact List.mem_cons_self)
          unfold L2.wipe
          rw [ih (fun z => hm (List.mem_cons_of_mem _ z)), List.set_comm _ _ hk]
      rw [this]
      simp
structure QGo (X : Cx) (t : Expr) (vs : List Nat) (g : DG) (G : TG) : Prop where
  pg : PG X t G
  lf : liftGo X.K vs g G
def liftGos (K : PySem.W.Frag) (vs : List Nat) (g : List D → DSt → DH → (DSt → DH → Prop) → Prop) (G : TGs) : Prop := ∀ (ds : List D) (us : List V) (s : DSt) (σ : L2.St) (H : Hp) (L : DH) (P : DSt → DH → Prop) (Q : L2.St → Hp → Prop), RepL K H ds us → SR K H s σ → HR K H L → g ds s L P →
  PostW K vs σ H L P Q → G us σ H Q
theorem lgo_name {K : PySem.W.Frag} {vs : List Nat} (i : Nat) (h : i ∈ vs := by decide) : liftGo K vs (gdName i) (gName i) := fun d v s σ H L P Q r hs hr q p => p _ L _ H q (hs.set r i) hr .refl (wipe_set h)
theorem lgo_nil {K : PySem.W.Frag} {vs : List Nat} : liftGos K vs gdNil gNil := fun ds us s σ H L P Q r hs hr q p => by
  obtain ⟨rfl, q⟩ := q
  exact ⟨r, p s L σ H q hs hr .refl rfl⟩
theorem lgo_cons {K : PySem.W.Frag} {vs : List Nat} {g : DG} {G : TG} {r : List D → DSt → DH → (DSt → DH → Prop) → Prop} {R : TGs} (h1 : liftGo K vs g G) (h2 : liftGos K vs r R) : liftGos K vs (gdCons g r) (gCons G R) := fun ds us s σ H L P Q r hs hr h p => by
  cases ds with
  | nil => exact h.elim
  | cons d ds =>
    obtain ⟨v, vr, e, rv, rr⟩ := r
    refine ⟨v, vr, e, h1 d v s σ H L _ _ rv hs hr h fun s1 L1 σ1 H1 q hs1 hr1 k1 w1 => ?_⟩
    exact h2 ds vr s1 σ1 H1 L1 P Q (RepL.tk (k1.tk hr) _ _ rr) hs1 hr1 q fun s2 L2 σ2 H2 a b c d w2 => p s2 L2 σ2 H2 a b c (k1.trans d) (w2.trans w1)
theorem lgo_tup {K : PySem.W.Frag} {vs : List Nat} {n : Nat} {r : List D → DSt → DH → (DSt → DH → Prop) → Prop} {R : TGs} (h2 : liftGos K vs r R) : liftGo K vs (gdTup n r) (gTup K n R) := fun d v s σ H L P Q r hs hr h p => by
  cases d with
  | tup ds =>
    obtain ⟨a, us, e, sq, rl⟩ := r
    exact ⟨a, us, e, sq, by rw [← rl.length]; exact h.1, h2 ds us s σ H L P Q rl hs hr h.2 p⟩
  | _ => exact h.elim
/-! the comprehension itself -/
def lcD (g : DG) (t : DT) (e : DE) (ok : DH → Prop) (s : DSt) (Q : List D → DH → Prop) : List D → List D → DH → Prop
  | [], acc, L => ok L ∧ Q acc L
  | d :: ds, acc, L => ok L ∧ g d s L (fun s1 L1 => t s1 L1 (fun b L2 => if b = true then e s1 L2 (fun y L3 => acc.length < 16777216 ∧ lcD g t e ok s Q ds (acc ++ [y]) L3) (fun _ _ _ => False) else lcD g t e ok s Q ds acc L2) (fun _ _ _ => False)) (fun _ _ _ => False)
def dLc (di : DI) (g : DG) (t : DT) (e : DE) (vs : List Nat) : DE := fun s L Q E => di s L (fun ds ok L1 => lcD g t e ok (dwipe s vs) (fun acc L2 => ∀ p, L2 p = none → Q (.ref p) (upd L2 p (.lst acc))) ds [] L1) E
abbrev W0 : WX := fun _ _ _ _ => False
theorem lp0 {M : KM} {σ : L2.St} {H : Hp} {L : DH} : LP M W0 σ H L (fun _ _ _ => False) := ⟨fun _ _ _ _ _ _ h => h.elim⟩
theorem lift_lc {M : KM} {W : WX} {di : DI} {g : DG} {G : TG} {t : DT} {e : DE} {vs : List Nat} (lG : liftGo M.K vs g G) {σ : L2.St} {H : Hp} {Q : VK} (q : liftE M W (dLc di g t e vs) σ H Q) :
    tLc (liftI M W di) G (liftT M W0 t) (liftE M W0 e) vs σ H Q := by
  obtain ⟨s, L, Qd, Ed, hs, hr, q, hq, lp⟩ := q
  refine ⟨s, L, _, Ed, hs, hr, q, fun ds ok L1 H1 J q hr1 k1 ito D hD => ?_, lp⟩
  have hLD : L1 D = none := hr1.free hD
  have tkD : TK H1 (L2.upd H1 D (.lst [])) := HR.tk_new hD
  have hs1 : SR M.K H1 s σ := hs.tk (k1.tk hr)
  have hrD : HR M.K (L2.upd H1 D (.lst [])) L1 := (hr1.laid hD).1
  refine ⟨fun i m H' => ∃ acc vacc L', i ≤ ds.length ∧ m = ds.length - i ∧ HR M.K H' L' ∧ TK H1 H' ∧ Kp H L H' L' ∧ L' D = none ∧ H' D = some (.lst vacc) ∧ RepL M.K H' acc vacc ∧
    lcD g t e ok (dwipe s vs) (fun acc L2 => ∀ p, L2 p = none → Qd (.ref p) (upd L2 p (.lst acc))) (ds.drop i) acc L', ⟨_, [], [], L1, Nat.zero_le _, rfl, hrD, tkD, k1.trans (hr1.laid hD).2, hLD, upd_same, rfl, q⟩, ?_⟩
  rintro i m H' ⟨acc, vacc, L', hi, rfl, hr', tk', k', hL', hH', ra, q'⟩
  by_cases hlt : i < ds.length
  · have ed : ds.drop i = ds[i] :: ds.drop (i + 1) := List.drop_eq_getElem_cons hlt
    rw [ed] at q'
    obtain ⟨hok, q'⟩ := q'
    obtain ⟨go, yl⟩ := (ito i H' L' tk' hr' hok).2 ds[i] (List.getElem?_eq_getElem hlt)
    refine .inr ⟨go, fun H2 => ∃ acc vacc L2, HR M.K H2 L2 ∧ TK H1 H2 ∧ Kp H L H2 L2 ∧ L2 D = none ∧ H2 D = some (.lst vacc) ∧ RepL M.K H2 acc vacc ∧
      lcD g t e ok (dwipe s vs) (fun acc L2 => ∀ p, L2 p = none → Qd (.ref p) (upd L2 p (.lst acc))) (ds.drop (i + 1)) acc L2, fun H2 ⟨a, b, c, q⟩ => ⟨ds.length - (i + 1), by omega, a, b, c, hlt, rfl, q⟩, fun x H'' y => ?_⟩
    obtain ⟨ry, hry, ky, ty⟩ := yl x H'' y
    have ssw : SR M.K H'' (dwipe s vs) (L2.wipe σ vs) := (hs1.tk (tk'.trans ty)).wipe vs
    refine lG ds[i] x (dwipe s vs) (L2.wipe σ vs) H'' L' _ _ ry ssw hry q' fun s2 LB σ2 H2 q2 hs2 hr2 k2 w2 => ⟨by rw [w2]; exact ww σ vs, ?_⟩
    refine liftT_bind hs2 hr2 lp0 q2 fun b L3 H3 q3 hr3 k3 hs3 t3 lp3 => ?_
    have keepD : ∀ {Ha Hb : Hp} {La Lb : DH}, Kp Ha La Hb Lb → Ha D = some (.lst vacc) → La D = none → Hb D = some (.lst vacc) ∧ Lb D = none := fun k a b => k D _ a b
    obtain ⟨d1, l1⟩ := keepD ky hH' hL'
    obtain ⟨d2, l2⟩ := keepD k2 d1 hL'
    obtain ⟨d3, l3⟩ := keepD k3 d2 l2
    have tk3 : TK H' H3 := (ty.trans (k2.tk hry)).trans t3
    have kp3 : Kp H L H3 L3 := ((k'.trans ky).trans k2).trans k3
    cases b with
    | false =>
      refine (if_neg Bool.false_ne_true).mpr ⟨acc, vacc, L3, hr3, tk'.trans tk3, kp3, l3, d3, RepL.tk tk3 _ _ ra, (if_neg Bool.false_ne_true).mp q3⟩
    | true =>
      refine (if_pos rfl).mpr ?_
      refine liftE_bind hs3 hr3 lp3 ((if_pos rfl).mp q3) fun y L4 v H4 ⟨hlen, q4⟩ r4 hr4 k4 hs4 t4 lp4 => ?_
      obtain ⟨d4, l4⟩ := keepD k4 d3 l3
      have ra4 : RepL M.K H4 acc vacc := RepL.tk (tk3.trans t4) _ _ ra
      refine ⟨vacc, d4, by rw [← ra4.length]; exact line_lt hlen, ?_⟩
      have tk5 : TK H4 (L2.upd H4 D (.lst (vacc ++ [v]))) := fun a o h im => by
        rw [upd_ne]; exact h
        rintro rfl
        rw [d4] at h; cases h; exact im.elim
      have hr5 : HR M.K (L2.upd H4 D (.lst (vacc ++ [v]))) L4 := fun a o h => by
        have ne : a ≠ D := by rintro rfl; rw [l4] at h; cases h
        exact (hr4 a o h).tk tk5 fun u hu => by rw [upd_ne ne]; exact hu
      refine ⟨acc ++ [y], vacc ++ [v], L4, hr5, ((tk'.trans tk3).trans t4).trans tk5, fun a o h n => ?_, l4, upd_same, RepL.tk tk5 _ _ (ra4.append (.one r4)), q4⟩
      obtain ⟨e1, e2⟩ := (kp3.trans k4) a o h n
      have ne : a ≠ D := by
        rintro rfl
        have := (k1 a o h n).1
        rw [hD] at this; cases this
      exact ⟨by rw [upd_ne ne]; exact e1, e2⟩
  · have ee : i = ds.length := by omega
    subst ee
    rw [List.drop_length] at q'
    obtain ⟨hok, q'⟩ := q'
    refine .inl ⟨(ito _ H' L' tk' hr' hok).1 rfl, hq (.ref D) _ (.ref D) H' (q' D hL') rfl (fun a o h => ?_) fun a o h n => ?_⟩
    · by_cases ea : a = D
      · subst ea
        rw [updD_same] at h; cases h
        exact ⟨vacc, hH', ra⟩
      · rw [updD_ne ea] at h
        exact hr' a o h
    · obtain ⟨e1, e2⟩ := k' a o h n
      have ne : a ≠ D := by
        rintro rfl
        have := (k1 a o h n).1
        rw [hD] at this; cases this
      exact ⟨e1, by rw [updD_ne ne]; exact e2⟩
end D2

set_option Elab.async false
set_option linter.all false
set_option maxRecDepth 100000
set_option maxHeartbeats 1000000
namespace D2
open PySem PySem.Spec PyProof.Rows L2
structure QTs (X : Cx) (W : WX) (ifs : List Expr) (t : DT) : Prop where
  pt : PTs X ifs (liftT X.km W t)
def dYes : DT := fun _ L Q _ => Q true L
section
variable {X : Cx} {W : WX} {pos : Pos}
theorem PTs_mono {X : Cx} {e : List Expr} {t t' : TT} (h : PTs X e t) (i : ∀ σ H Q, t' σ H Q → t σ H Q) : PTs X e t' := ⟨fun pins s σ H Q I q => h.run pins s σ H Q I (i σ H Q q)⟩
theorem qts_nil : QTs X W [] dYes := ⟨PTs_mono pts_nil fun σ H Q ⟨s, L, Qd, Ed, hs, hr, q, hq, lp⟩ => hq true L H q hr .refl⟩
theorem qts_one {c : Expr} {t : DT} (h : QT X W c t) : QTs X W [c] t := ⟨pts_one h.pt⟩
theorem qe_lc {elt tg iter : Expr} {ifs : List Expr} {scope : Scope} {own : List (Str × Nat)} {di : DI} {g : DG} {G : TG} {t : DT} {e : DE} (hc : X.calm = true) (hN : X.N.Nodup) (hi : QI X W tg iter di) (ok : BlkOk X.N X.env.scope scope own)
    (hg : ∀ (s : Shared) (H : Hp) (C : Addr) (cl : List (Str × Addr)) (fp : List Addr), PG (X.blk s H scope (compEnvC scope cl C X.env) fp) tg G) (lG : liftGo X.K (own.map (·.2)) g G)
    (ht : ∀ (s : Shared) (H : Hp) (C : Addr) (cl : List (Str × Addr)) (fp : List Addr), QTs (X.blk s H scope (compEnvC scope cl C X.env) fp) W0 ifs t)
    (he : ∀ (s : Shared) (H : Hp) (C : Addr) (cl : List (Str × Addr)) (fp : List Addr), QE (X.blk s H scope (compEnvC scope cl C X.env) fp) W0 elt e) (hs : ∀ x, foldedSetIterable iter X.env x = pure x := by intro _; rfl) :
    QE X W (.ListComp elt [⟨tg, iter, ifs, 0⟩] scope pos) (dLc di g t e (own.map (·.2))) :=
  ⟨PE_mono (pe_lc hc hN hi.pi ok hg (fun s H C cl fp => (ht s H C cl fp).pt) (fun s H C cl fp => (he s H C cl fp).pe) hs) fun _ _ _ q => lift_lc lG q⟩
theorem qs_setLc {i : Nat} {y : Str} {py spos : Pos} {elt tg iter : Expr} {ifs : List Expr} {scope : Scope} {own : List (Str × Nat)} {di : DI} {g : DG} {G : TG} {t : DT} {e : DE} (hc : X.calm = true) (hN : X.N.Nodup) (hi : QI X W tg iter di) (ok : BlkOk X.N X.env.scope scope own)
    (hg : ∀ (s : Shared) (H : Hp) (C : Addr) (cl : List (Str × Addr)) (fp : List Addr), PG (X.blk s H scope (compEnvC scope cl C X.env) fp) tg G) (lG : liftGo X.K (own.map (·.2)) g G)
    (ht : ∀ (s : Shared) (H : Hp) (C : Addr) (cl : List (Str × Addr)) (fp : List Addr), QTs (X.blk s H scope (compEnvC scope cl C X.env) fp) W0 ifs t)
    (he : ∀ (s : Shared) (H : Hp) (C : Addr) (cl : List (Str × Addr)) (fp : List Addr), QE (X.blk s H scope (compEnvC scope cl C X.env) fp) W0 elt e)
    (hsw : swapsWith (.ListComp elt [⟨tg, iter, ifs, 0⟩] scope pos) (some (.Name y py)) spos.line X.env = pure true)
    (hy : X.N[i]? = some y := by rfl) (hyl : X.env.scope.names.lookup y = some .local := by rfl) (hs : ∀ x, foldedSetIterable iter X.env x = pure x := by intro _; rfl) :
    QS X W (.Assign [.Name y py] (.ListComp elt [⟨tg, iter, ifs, 0⟩] scope pos) spos) (sAsg (dLc di g t e (own.map (·.2))) (gdName i)) :=
  ⟨PS_mono (ps_setLc hc hN hy hyl hsw hi.pi ok hg (fun s H C cl fp => (ht s H C cl fp).pt) (fun s H C cl fp => (he s H C cl fp).pe) hs) fun Dn σ H ⟨s, L, dn, hs, hr, h, p⟩ =>
    lift_lc lG (Q := fun x H1 => gName i x σ H1 Dn.nx) (liftE_bind hs hr (p.lp hs hr) h fun d L1 x H1 q1 r1 hr1 k1 hs1 t1 lp1 => p.nx _ L1 _ H1 q1 (hs1.set r1 i) hr1 k1)⟩
/-! raise -/
structure ExcOk (K : PySem.W.Frag) (mg : Str → Option Value) (nm : Str) : Prop where
  ex : ∃ C, mg nm = some (.ref C) ∧ PySem.W.excIn K C [.type "ValueError", .type "Exception", .type "BaseException", .type "object"] "ValueError.__new__" = true ∧ PySem.W.keepIn K (.ref C) = true ∧
    PySem.W.subIn K (.ref C) (.type "BaseException") = some true ∧ PySem.W.typeIn K (.ref C) = some (.type "type")
def sRaise (nm : Str) : DS := fun dn s L => dn.ex nm [] s L
theorem qs_raise {nm m : Str} {j : Nat} {p p2 pos2 : Pos} (hc : X.calm = true) (tk : Takes X W) (ok : ExcOk X.K X.mg nm) (hg : Gl X nm := by rfl) (hdb : (nm == ("__debug__" : Str)) = false := by decide) :
    QS X W (.Raise (some (.Call (.Name nm p) [.Constant (.str m) j p2] [] pos2)) none pos) (sRaise nm) := by
  obtain ⟨C, h1, h2, h3, h4, h5⟩ := ok.ex
  exact ⟨PS_mono (ps_raise hc tk (pmk_own PySem.F.excBase_ValueError h2 h1 h3 (raises_own h4 h5) hg hdb)) fun Dn σ H ⟨s, L, dn, hs, hr, h, p⟩ => p.ex nm [] _ _ s L σ H h ⟨h1, .inl rfl⟩ hs hr .refl⟩
/-! try -/
def exBy (sub : Str → Str → Option Bool) (dn : DEnds) : List (Str × DS) → Str → List (Str × D) → DSt → DH → Prop
  | [] => dn.ex
  | (c, h) :: r => fun n fs s L => ∃ b, sub n c = some b ∧ (b = true → h { dn with ex := fun _ _ _ _ => False } s L) ∧ (b = false → exBy sub dn r n fs s L)
def sTry (sub : Str → Str → Option Bool) (body : DS) (hs : List (Str × DS)) : DS := fun dn s L => body { dn with ex := exBy sub dn hs } s L
/-- what the table of the errors' classes says is so -/
def SubOk (K : PySem.W.Frag) (mg : Str → Option Value) (sub : Str → Str → Option Bool) : Prop := ∀ n c b, sub n c = some b → ∃ vn vc, mg n = some vn ∧ mg c = some vc ∧ PySem.W.exmOne K vn vc = some b
inductive QHds (X : Cx) : List ExceptHandler → List (Str × DS) → List (Value × (Addr → Value → Option Addr → TS)) → Prop
  | nil : QHds X [] [] []
  | cons {x : Str} {c : Value} {h : DS} {b₀ : Stmt} {suite : List Stmt} {np pos' : Pos} {hds : List ExceptHandler} {l : List (Str × DS)} {ll : List (Value × (Addr → Value → Option Addr → TS))} (hm : X.mg x = some c)
      (hsu : ∀ (a : Addr) (oe : Obj) (pn : List (Addr × Obj)), QSs (X.suite a ((a, oe) :: pn)) W0 (b₀ :: suite) h) (r : QHds X hds l ll) (hg : Gl X x := by rfl) (hdb : (x == ("__debug__" : Str)) = false := by decide) :
      QHds X (.ExceptHandler (some (.Name x np)) none (b₀ :: suite) pos' :: hds) ((x, h) :: l) ((c, fun _ _ _ => liftS X.km W0 h) :: ll)
theorem QHds.ok {hds : List ExceptHandler} {l : List (Str × DS)} {ll : List (Value × (Addr → Value → Option Addr → TS))} (h : QHds X hds l ll) : HdsOk X hds ll := by
  induction h with
  | nil => exact .nil
  | cons hm hsu r hg hdb ih => exact .cons ⟨hg, hdb, .inl hm⟩ (fun a oe cls d pn _ _ => (hsu a oe pn).ps) ih
theorem exBy_ok {sub : Str → Str → Option Bool} (so : SubOk X.K X.mg sub) {hds : List ExceptHandler} {l : List (Str × DS)} {ll : List (Value × (Addr → Value → Option Addr → TS))} (h : QHds X hds l ll)
    {H : Hp} {L : DH} {dn : DEnds} {Dn : Ends} (p : Post X.km W H L dn Dn) : ∀ {n : Str} {fs : List (Str × D)} {cls : Value} {dx : Option Addr} {s : DSt} {L' : DH} {σ : L2.St} {H' : Hp}, exBy sub dn l n fs s L' → XRep X.km H' n fs cls dx → SR X.K H' s σ → HR X.K H' L' → Kp H L H' L' →
      wMany X.K W Dn ll cls dx σ H' := by
  induction h with
  | nil => intro n fs cls dx s L' σ H' q x hs hr k; exact p.ex n fs cls dx s L' σ H' q x hs hr k
  | cons hm hsu r hg hdb ih =>
    intro n fs cls dx s L' σ H' q x hs hr k
    obtain ⟨b, e, q1, q2⟩ := q
    obtain ⟨vn, vc, g1, g2, g3⟩ := so _ _ _ e
    have e1 : vn = cls := Option.some.inj (g1.symm.trans x.1)
    have e2 := Option.some.inj (g2.symm.trans hm)
    subst e1 e2
    refine ⟨b, g3, fun hb a ha => ⟨s, L', _, hs, hr, q1 hb, ?_⟩, fun hb => ih (q2 hb) x hs hr k⟩
    have p' := p.after k
    exact ⟨p'.nx, p'.rt, p'.bk, p'.ct, fun _ _ _ _ _ _ _ _ z => z.elim⟩
theorem qs_try {body : List Stmt} {h₀ : ExceptHandler} {hds : List ExceptHandler} {db : DS} {l : List (Str × DS)} {ll : List (Value × (Addr → Value → Option Addr → TS))} {sub : Str → Str → Option Bool} (hs : X.stack = X.env :: X.outer) (hf : X.env.frame = some X.env.locals) (tk : Takes X W) (so : SubOk X.K X.mg sub)
    (hb : ∀ (W : WX) (pn : List (Addr × Obj)) (xe : Value → Shared → Prop), Takes (X.tr pn xe) W → PassesOwn (model X.prog X.w) X.A X.env xe → QSs (X.tr pn xe) W body db) (hh : QHds X (h₀ :: hds) l ll) : QS X W (.Try body (h₀ :: hds) [] [] pos) (sTry sub db l) :=
  ⟨PS_mono (ps_try_many (tb := fun W => liftS X.km W db) hs hf tk (fun W pn xe t1 t2 => (hb W pn xe t1 t2).ps) hh.ok) fun Dn σ H ⟨s, L, dn, hs, hr, h, p⟩ =>
    ⟨s, L, _, hs, hr, h, p.nx, p.rt, p.bk, p.ct, fun C fs cls dx s' L' σ' H' a b c d e => exBy_ok so hh p a b c d e⟩⟩
end
/-! ### the law -/
theorem law_sp {K : PySem.W.Frag} {mg : Str → Option Value} {sp : SpD} {H : Hp} {a : Addr} {ns : List Int} (hO : Only H) (hS : SqL K H a (ns.map V.int)) (h : ∀ L : DH, (∀ b, L b = none) → sp [.lro (ns.map .int)] L (fun d _ => d = .bl true) (fun _ _ _ => False)) :
    liftSp ⟨K, mg⟩ sp [.ref a] H (fun v _ => v = .bl true) (fun _ _ _ => False) := by
  refine ⟨[.lro (ns.map .int)], (fun _ => none), (fun d _ => d = .bl true), (fun _ _ _ => False), RepL.one ⟨a, _, rfl, ?_, repL_of_ints ns⟩, (fun _ _ h => nomatch h), h _ (fun _ => rfl), (fun d L' v H' e r _ _ => by subst e; exact r), (fun _ _ _ _ _ _ h => h.elim)⟩
  rcases hS with (h | ⟨o, h⟩) | h
  · rcases hO a with z | ⟨o, xs, z⟩
    · rw [h] at z; cases z
    · rw [h] at z; cases z
  · exact .inl ⟨o, h⟩
  · exact .inr h
end D2

set_option Elab.async false
set_option linter.all false
set_option maxRecDepth 100000
set_option maxHeartbeats 1000000
namespace D2
open PySem PySem.Spec PyProof.Rows L2
/-! ### short words for the printed derivations -/
structure Ok (P : Program) (w : World) (K : PySem.W.Frag) (mg : Str → Option Value) (base : Heap) (nm : Str) (k : Nat) (ps : List Str) (sp : SpD) : Prop where
  ex : ∃ f fd, FnOk P w K mg base (L2.CX P w) k f fd ps (liftSp ⟨K, mg⟩ sp) ∧ mg nm = some (.ref f) ∧ PySem.W.keepIn K (.ref f) = true ∧ Binds K fd ps [] ∧ ∃ oc od sl, K.lookup f = some ⟨oc, od, .func fd, sl⟩
theorem _root_.L2.Fun.lk {K : PySem.W.Frag} {x qual : Str} {st : Stmt} {f : Addr} {fd : FuncData} (F : Fun K x qual st f fd) : ∃ oc od sl, K.lookup f = some ⟨oc, od, .func fd, sl⟩ := by
  obtain ⟨oc, od, kV, doc, pm, an, cdv, ct, osl, _, lk, _⟩ := F.ex
  exact ⟨oc, od, osl, lk⟩
structure DefAt (K : PySem.W.Frag) (mg : Str → Option Value) (nm : Str) (st : Stmt) : Prop where
  ex : ∃ f fd, mg nm = some (.ref f) ∧ Fun K nm nm st f fd
def ClsAt (mg : Str → Option Value) (nm : Str) : Prop := ∃ v, mg nm = some v
structure ConstOk (K : PySem.W.Frag) (mg : Str → Option Value) (nm : Str) (d : D) : Prop where
  ex : ∃ v u, mg nm = some u ∧ RelV v u ∧ ∀ H, Rep K H d v
theorem Ok.mono {P : Program} {w : World} {K : PySem.W.Frag} {mg : Str → Option Value} {base : Heap} {nm : Str} {j k : Nat} {ps : List Str} {sp : SpD} (o : Ok P w K mg base nm j ps sp) (h : j ≤ k) : Ok P w K mg base nm k ps sp := by
  obtain ⟨f, fd, a, b⟩ := o.ex
  exact ⟨f, fd, a.mono h, b⟩
section
variable {X : Cx} {W : WX} {pos : Pos}
theorem q_callO {k : Nat} {ps : List Str} {sp : SpD} {x : Str} {p : Pos} {e : Expr} {es : List Expr} {t : DA} (o : Ok X.prog X.w X.K X.mg X.base x k ps sp) (hr : Room k X.A) (tk : Takes X W) (ha : QA X W (e :: es) t) (hg : Gl X x := by rfl)
    (hdb : (x == ("__debug__" : Str)) = false := by decide) (he : starEach (e :: es) X.env = (false, eval e X.env) :: starEach es X.env := by rfl) (hpl : (backTo pos (starEach es X.env)).any (·.1) = false := by rfl) :
    QE X W (.Call (.Name x p) (e :: es) [] pos) (dCall sp t) := by
  obtain ⟨f, fd, F, hm, hk, hb, _⟩ := o.ex
  exact q_call F hr hm hk hb tk ha hg hdb he hpl
theorem q_cst {x : Str} {d : D} (c : ConstOk X.K X.mg x d) (hg : Gl X x := by rfl) (hd : (x == ("__debug__" : Str)) = false := by decide) : QE X W (.Name x pos) (dC d) := by
  obtain ⟨v, u, h1, h2, h3⟩ := c.ex
  exact q_glob hg h1 h2 h3 hd
/-! is True -/
def dIsBl : RD2 := fun x y L Q => match x, y with
  | .bl a, .bl b => Q (.bl (decide (a = b))) L
  | _, _ => False
def dNotBl : RD2 := fun x y L Q => match x, y with
  | .bl a, .bl b => Q (.bl (!decide (a = b))) L
  | _, _ => False
theorem opd_isBl {K : PySem.W.Frag} : OpD K rIsB dIsBl := fun H L d e x y Qd Q rx ry hr q k => by
  cases d with
  | bl i =>
    cases e with
    | bl j => exact ⟨i, j, rx, ry, k _ L _ H q rfl hr .refl⟩
    | _ => exact False.elim q
  | _ => exact False.elim q
theorem opd_notBl {K : PySem.W.Frag} : OpD K rNotB dNotBl := fun H L d e x y Qd Q rx ry hr q k => by
  cases d with
  | bl i =>
    cases e with
    | bl j => exact ⟨i, j, rx, ry, k _ L _ H q rfl hr .refl⟩
    | _ => exact False.elim q
  | _ => exact False.elim q
/-! several names at once -/
def sPar2 (i j : Nat) (t : DA) : DS := fun dn s L => t s L (fun ds L1 => ∃ a b, ds = [a, b] ∧ dn.nx ((s.set i (some a)).set j (some b)) L1) (xOf dn s)
def sPar3 (i j l : Nat) (t : DA) : DS := fun dn s L => t s L (fun ds L1 => ∃ a b c, ds = [a, b, c] ∧ dn.nx (((s.set i (some a)).set j (some b)).set l (some c)) L1) (xOf dn s)
theorem qs_par2 (i j : Nat) {x y : Str} {a b : Expr} {ta : DA} {px py pt : Pos} {kt k2 pt2} (hN : X.N.Nodup) (ha : QA X W [a, b] ta) (hc : X.calm = true := by rfl) (hi : X.N[i]? = some x := by rfl) (hj : X.N[j]? = some y := by rfl) (hij : i ≠ j := by decide)
    (hx : X.env.scope.names.lookup x = some .local := by rfl) (hy : X.env.scope.names.lookup y = some .local := by rfl)
    (hw : swappedStores [.Tuple [.Name x px, .Name y py] kt pt] (.Tuple [a, b] k2 pt2) X.env = pure (some [x, y]) := by rfl)
    (hs : swapsWithSole [.Tuple [.Name x px, .Name y py] kt pt] (.Tuple [a, b] k2 pt2) pos.line X.env = pure false := by rfl) : QS X W (.Assign [.Tuple [.Name x px, .Name y py] kt pt] (.Tuple [a, b] k2 pt2) pos) (sPar2 i j ta) :=
  ⟨PS_mono (ps_par hc hN hi hj hij hx hy ha.pa hw hs) fun Dn σ H ⟨s, L, dn, hs, hr, h, p⟩ => liftA_bind hs hr (p.lp hs hr) h fun ds L1 vs H1 ⟨d1, d2, e, q1⟩ r1 hr1 k1 hs1 t1 lp1 => by
    subst e
    obtain ⟨v, u, e, r1, r2⟩ := r1.two_inv
    exact ⟨v, u, e, p.nx _ L1 _ H1 q1 ((hs1.set r1 i).set r2 j) hr1 k1⟩⟩
theorem qs_par3 (i j l : Nat) {x y z : Str} {a b c : Expr} {ta : DA} {px py pz pt : Pos} {kt k2 pt2} (hN : X.N.Nodup) (ha : QA X W [a, b, c] ta) (hc : X.calm = true := by rfl) (hi : X.N[i]? = some x := by rfl) (hj : X.N[j]? = some y := by rfl) (hl : X.N[l]? = some z := by rfl) (hij : i ≠ j := by decide) (hil : i ≠ l := by decide) (hjl : j ≠ l := by decide)
    (hx : X.env.scope.names.lookup x = some .local := by rfl) (hy : X.env.scope.names.lookup y = some .local := by rfl) (hz : X.env.scope.names.lookup z = some .local := by rfl)
    (hw : swappedStores [.Tuple [.Name x px, .Name y py, .Name z pz] kt pt] (.Tuple [a, b, c] k2 pt2) X.env = pure (some [x, y, z]) := by rfl)
    (hs : swapsWithSole [.Tuple [.Name x px, .Name y py, .Name z pz] kt pt] (.Tuple [a, b, c] k2 pt2) pos.line X.env = pure false := by rfl) : QS X W (.Assign [.Tuple [.Name x px, .Name y py, .Name z pz] kt pt] (.Tuple [a, b, c] k2 pt2) pos) (sPar3 i j l ta) :=
  ⟨PS_mono (ps_par3 hc hN hi hj hl hij hil hjl hx hy hz ha.pa hw hs) fun Dn σ H ⟨s, L, dn, hs, hr, h, p⟩ => liftA_bind hs hr (p.lp hs hr) h fun ds L1 vs H1 ⟨d1, d2, d3, e, q1⟩ r1 hr1 k1 hs1 t1 lp1 => by
    subst e
    obtain ⟨v, r, e, rv, u, r2, e2, ru, rr⟩ := r1
    obtain ⟨t, e3, rt⟩ := RepL.one_inv rr
    exact ⟨v, u, t, by rw [e, e2, e3], p.nx _ L1 _ H1 q1 (((hs1.set rv i).set ru j).set rt l) hr1 k1⟩⟩
end
/-! ### the end of a law -/
theorem exm_pair {K : PySem.W.Frag} {N S : Addr} {b : Bool} (h1 : PySem.W.subIn K (.ref S) (.type "BaseException") = some true) (h2 : PySem.W.isClsIn K S = true) (h3 : PySem.W.typeIn K (.ref S) = some (.type "type")) (h4 : PySem.W.subIn K (.ref N) (.ref S) = some b) :
    PySem.W.exmOne K (.ref N) (.ref S) = some b := by
  have e1 : (PySem.W.subIn K (.ref S) (.type "BaseException") == some true) = true := by rw [h1] <;> rfl
  have e2 : ((PySem.W.clsIn K S).isSome && PySem.W.typeIn K (.ref S) == some (.type "type")) = true := by
    have h2' : (PySem.W.clsIn K S).isSome = true := h2
    rw [h2', h3] <;> rfl
  show (if (PySem.W.subIn K (.ref S) (.type "BaseException") == some true) = true then (if ((PySem.W.clsIn K S).isSome && PySem.W.typeIn K (.ref S) == some (.type "type")) = true then PySem.W.subIn K (.ref N) (.ref S) else none) else none) = some b
  rw [if_pos e1, if_pos e2]
  exact h4
theorem cst_int {K : PySem.W.Frag} {mg : Str → Option Value} {h : Heap} {nm : Str} {i : Int} {t : Tok} (X : K.In h) (G : h.Ns mainGlobals mg) (a : PySem.W.nsIn K mainGlobals nm = some (some (.int i t))) : ConstOk K mg nm (.int i) := ⟨.int i, _, PySem.W.mg_of X G a, ⟨t, rfl⟩, fun _ => rfl⟩
theorem cst_str {K : PySem.W.Frag} {mg : Str → Option Value} {h : Heap} {nm : Str} {i : Str} {t : Tok} (X : K.In h) (G : h.Ns mainGlobals mg) (a : PySem.W.nsIn K mainGlobals nm = some (some (.str i t))) (ok : PyData.strOk i = true) : ConstOk K mg nm (.str i) := ⟨.str i, _, PySem.W.mg_of X G a, ⟨t, rfl⟩, fun _ => ⟨rfl, ok⟩⟩
theorem def_at {K : PySem.W.Frag} {mg : Str → Option Value} {h : Heap} {x : Str} {st : Stmt} {f : Addr} {oc : Value} {od an : Option Addr} {osl : Array (Option Value)} {kV doc pm cdv ct : Value} (X : K.In h) (G : h.Ns mainGlobals mg) (a : PySem.W.nsIn K mainGlobals x = some (some (.ref f)))
    (l : K.lookup f = some ⟨oc, od, .func (PySem.W.fnOf x x (defArgs st) (defBody st) (defScope st) .none kV doc pm an cdv ct), osl⟩)
    (c : PySem.W.codeIn K cdv x = true) (k : PySem.W.keepIn K (.ref f) = true) : DefAt K mg x st := ⟨f, _, PySem.W.mg_of X G a, fun_mk l c k⟩
theorem law_end {l : PySem.W.OpenLaw} {w : World} {K : PySem.W.Frag} {mg : Str → Option Value} {fa : Addr} {lv : Nat} {sp : SpD} {fd : FuncData} {oc : Value} {od : Option Addr} {sl : Array (Option Value)} (hfa : mg "law" = some (.ref fa)) (lk : K.lookup fa = some ⟨oc, od, .func fd, sl⟩)
    {base : Heap} (o : Ok l.prog w K mg base "law" lv ["script"] sp) : FnOk l.prog w K mg base (L2.CX l.prog w) lv fa fd ["script"] (liftSp ⟨K, mg⟩ sp) := by
  obtain ⟨f, fd', F, hm, _, _, oc', od', sl', lk'⟩ := o.ex
  have e := hfa.symm.trans hm
  cases e
  rw [lk] at lk'
  cases lk'
  exact F
theorem walkD {l : PySem.W.OpenLaw} {q : Program} {loose : List Str} {XP : (Str → Option Value) → Heap → Prop} {YP : World → Heap → Prop} {d : DefRec} {K : Params → PySem.W.Frag} {lv : Nat} {sp : SpD} (hn : l.most = some 63) (hdf : d.params.defaults = []) (hroom : Room lv callerA)
    (hY : ∀ (w : World) (h : Heap), YP w h → (K w.params).In h)
    (F : ∀ (w : World) (mg : Str → Option Value) (fa : Addr) (h : Heap), (K w.params).In h → h.Ns mainGlobals mg → mg d.name = some (.ref fa) →
      ∃ fd : FuncData, (∀ (s : Shared) (u : Value), BindsTo s fd ⟨[u], []⟩ [("script", u)]) ∧ ∀ base : Heap, (K w.params).In base → base.Ns mainGlobals mg → ∃ mg', FnOk l.prog w (K w.params) mg base (L2.CX l.prog w) lv fa fd ["script"] (liftSp ⟨K w.params, mg'⟩ sp))
    (hsp : ∀ (ns : List Int), ns.length ≤ 63 → ∀ L : DH, (∀ b, L b = none) → sp [.lro (ns.map .int)] L (fun d _ => d = .bl true) (fun _ _ _ => False)) :
    PySem.W.WalkO q loose XP YP l.row.toRowW d [] (fun f vs => PySem.call f vs) := by
  refine L2.walk_of (n := 63) (k := lv) (x := "script") (CX := fun w => L2.CX l.prog w) (sp := fun w vs H Q E => ∃ a ns, vs = [.ref a] ∧ ns.length ≤ 63 ∧ Only H ∧ SqL (K w.params) H a (ns.map V.int) ∧ (∀ v H', v = .bl true → Q v H') ∧ ∀ c x H', False → E c x H') hn (by decide) hdf hroom hY (fun w mg fa h KX G hmg => ?_) (fun w H a ns hl hO hS => ⟨a, ns, rfl, hl, hO, hS, fun _ _ e => e, fun _ _ _ e => e⟩) fun w H s e s' c => ?_
  · obtain ⟨fd, hb, hF⟩ := F w mg fa h KX G hmg
    refine ⟨fd, hb, fun base b1 b2 => ?_⟩
    obtain ⟨mg', F'⟩ := hF base b1 b2
    refine F'.imp fun vs H Q E h => ?_
    obtain ⟨a, ns, e, hl, hO, hS, hq, _⟩ := h
    subst e
    obtain ⟨ds, L, Qd, Ed, r, hr, q1, q2, q3⟩ := law_sp (K := K w.params) (mg := mg') hO hS (hsp ns hl)
    exact ⟨ds, L, Qd, Ed, r, hr, q1, fun d L' v H' x y z k => hq v H' (q2 d L' v H' x y z k), fun C fs L' cls dx H' x y z k => (q3 C fs L' cls dx H' x y z k).elim⟩
  · obtain ⟨_, _, _, _, _, _, _, _, _, _, _, _, z⟩ := c
    exact z
end D2

set_option Elab.async false
set_option linter.all false
set_option maxRecDepth 100000
set_option maxHeartbeats 1000000
namespace D2
open PySem PySem.Spec PyProof.Rows L2
/-! ### loops by induction; the continuation is a letter -/
theorem forD_ind {g : DG} {body : DS} {ok : DH → Prop} {dn : DEnds} (I : List D → DSt → DH → Prop)
    (hs : ∀ d ds s L (P : DSt → DH → Prop), (∀ s' L', I ds s' L' → P s' L') → I (d :: ds) s L → ok L ∧ g d s L (fun s1 L1 => body { dn with nx := P, ct := P, bk := dn.nx } s1 L1) (fun _ _ _ => False))
    (he : ∀ s L, I [] s L → ok L ∧ dn.nx s L) : ∀ ds s L, I ds s L → forD g body ok ds dn s L
  | [], s, L, h => he s L h
  | d :: ds, s, L, h => hs d ds s L _ (fun s' L' h' => forD_ind I hs he ds s' L' h') h
/-- the same invariant at each turn -/
theorem forD_mem {g : DG} {body : DS} {ok : DH → Prop} {dn : DEnds} (I : DSt → DH → Prop) (ds : List D)
    (hs : ∀ d, d ∈ ds → ∀ s L (P : DSt → DH → Prop), (∀ s' L', I s' L' → P s' L') → I s L → ok L ∧ g d s L (fun s1 L1 => body { dn with nx := P, ct := P, bk := dn.nx } s1 L1) (fun _ _ _ => False))
    (he : ∀ s L, I s L → ok L ∧ dn.nx s L) (s : DSt) (L : DH) (h : I s L) : forD g body ok ds dn s L :=
  forD_ind (fun rest s L => (∀ d, d ∈ rest → d ∈ ds) ∧ I s L) (fun d rest s L P hP hI => hs d (hI.1 d List.mem_cons_self) s L P (fun s' L' h' => hP s' L' ⟨fun e he => hI.1 e (List.mem_cons_of_mem _ he), h'⟩) hI.2)
    (fun s L hI => he s L hI.2) ds s L ⟨fun _ h => h, h⟩
/-- by the number of turns -/
theorem forD_ix {g : DG} {body : DS} {ok : DH → Prop} {dn : DEnds} (I : Nat → DSt → DH → Prop) (ds : List D)
    (hs : ∀ (i : Nat) d, ds[i]? = some d → ∀ s L (P : DSt → DH → Prop), (∀ s' L', I (i + 1) s' L' → P s' L') → I i s L → ok L ∧ g d s L (fun s1 L1 => body { dn with nx := P, ct := P, bk := dn.nx } s1 L1) (fun _ _ _ => False))
    (he : ∀ s L, I ds.length s L → ok L ∧ dn.nx s L) (s : DSt) (L : DH) (h : I 0 s L) : forD g body ok ds dn s L :=
  forD_ind (fun rest s L => ∃ i, rest = ds.drop i ∧ i ≤ ds.length ∧ I i s L) (fun d rest s L P hP ⟨i, e, hi, hI⟩ => by
      have hd : ds[i]? = some d := by
        have : (ds.drop i)[0]? = some d := by rw [← e]; rfl
        simpa using this
      refine hs i d hd s L P (fun s' L' h' => hP s' L' ⟨i + 1, ?_, ?_, h'⟩) hI
      · have : (ds.drop i).drop 1 = rest := by rw [← e]; rfl
        rw [← this, List.drop_drop]
      · have := (List.getElem?_eq_some_iff.mp hd).1
        omega)
    (fun s L ⟨i, e, hi, hI⟩ => by
      have : i = ds.length := by
        have := congrArg List.length e
        simp at this
        omega
      subst this
      exact he s L hI) ds s L ⟨0, by simp, Nat.zero_le _, h⟩
theorem lcD_ind {g : DG} {t : DT} {e : DE} {ok : DH → Prop} {s : DSt} {Q : List D → DH → Prop} (I : List D → List D → DH → Prop)
    (hs : ∀ d ds acc L (P : List D → DH → Prop), (∀ acc' L', I ds acc' L' → P acc' L') → I (d :: ds) acc L → ok L ∧ g d s L (fun s1 L1 => t s1 L1 (fun b L2 => if b = true then e s1 L2 (fun y L3 => acc.length < 16777216 ∧ P (acc ++ [y]) L3) (fun _ _ _ => False) else P acc L2) (fun _ _ _ => False)) (fun _ _ _ => False))
    (he : ∀ acc L, I [] acc L → ok L ∧ Q acc L) : ∀ ds acc L, I ds acc L → lcD g t e ok s Q ds acc L
  | [], acc, L, h => he acc L h
  | d :: ds, acc, L, h => hs d ds acc L (fun a L' => lcD g t e ok s Q ds a L') (fun a L' h' => lcD_ind I hs he ds a L' h') h
/-- elements and tests that change nothing -/
theorem lcD_pure {g : DG} {t : DT} {e : DE} {ok : DH → Prop} {s : DSt} {Q : List D → DH → Prop} (keep : D → Bool) (f : D → D) (L : DH) (hok : ok L) : ∀ (ds : List D),
    (∀ d, d ∈ ds → ∀ (Kt : D → DH → Prop) (Kf : DH → Prop), (keep d = true → Kt (f d) L) → (keep d = false → Kf L) → g d s L (fun s1 L1 => t s1 L1 (fun b L2 => if b = true then e s1 L2 Kt (fun _ _ _ => False) else Kf L2) (fun _ _ _ => False)) (fun _ _ _ => False)) →
    ∀ acc, acc.length + ds.length ≤ 16777216 → Q (acc ++ (ds.filter keep).map f) L → lcD g t e ok s Q ds acc L
  | [], _, acc, _, q => ⟨hok, by simpa using q⟩
  | d :: ds, h, acc, hl, q => by
    refine ⟨hok, h d List.mem_cons_self _ _ (fun hk => ⟨by simp at hl; omega, ?_⟩) fun hk => ?_⟩
    · refine lcD_pure keep f L hok ds (fun d hd => h d (List.mem_cons_of_mem _ hd)) _ (by simp at hl ⊢; omega) ?_
      rw [List.filter_cons, if_pos hk] at q
      simpa using q
    · refine lcD_pure keep f L hok ds (fun d hd => h d (List.mem_cons_of_mem _ hd)) _ (by simp at hl ⊢; omega) ?_
      rw [List.filter_cons, if_neg (by simp [hk])] at q
      exact q
theorem mem_rngD {lo : Int} {n : Nat} {d : D} (h : d ∈ rngD lo n) : ∃ k : Int, d = .int k ∧ lo ≤ k ∧ k < lo + n := by
  unfold rngD at h
  obtain ⟨i, hi, e⟩ := List.mem_map.mp h
  have := List.mem_range.mp hi
  exact ⟨lo + i, e.symm, by omega, by omega⟩
theorem rngD_get {lo : Int} {n : Nat} {i : Nat} {d : D} (h : (rngD lo n)[i]? = some d) : d = .int (lo + i) ∧ i < n := by
  unfold rngD at h
  rw [List.getElem?_map] at h
  obtain ⟨j, hj, e⟩ := Option.map_eq_some_iff.mp h
  have := List.getElem?_eq_some_iff.mp hj
  obtain ⟨hl, e2⟩ := this
  simp at hl e2
  subst e2
  exact ⟨e.symm, hl⟩
theorem rngD_length {lo : Int} {n : Nat} : (rngD lo n).length = n := by simp [rngD]
/-! ### equality of plain things -/
section
variable {L : DH}
@[simp] theorem pyL_int (n : Nat) (i : Int) : pyL L n (.int i) = some (.int i) := by cases n <;> rfl
@[simp] theorem pyL_bl (n : Nat) (i : Bool) : pyL L n (.bl i) = some (.bool i) := by cases n <;> rfl
@[simp] theorem pyL_str (n : Nat) (i : Str) : pyL L n (.str i) = some (.str i) := by cases n <;> rfl
@[simp] theorem pyL_non (n : Nat) : pyL L n .non = some .none := by cases n <;> rfl
theorem pyL_tup (n : Nat) (ds : List D) : pyL L (n + 1) (.tup ds) = (optAll (pyL L n) ds).map PyData.tuple := rfl
theorem pyL_ref (n : Nat) {a : Addr} {ds : List D} (h : L a = some (.lst ds)) : pyL L (n + 1) (.ref a) = (optAll (pyL L n) ds).map PyData.list := by
  show (match L a with | some (.lst ds) => (optAll (pyL L n) ds).map PyData.list | _ => none) = _
  rw [h]
theorem pyL_lro (n : Nat) {ds : List D} : pyL L (n + 1) (.lro ds) = (optAll (pyL L n) ds).map PyData.list := rfl
@[simp] theorem optAll_nil {α β : Type} {f : α → Option β} : optAll f [] = some [] := rfl
theorem optAll_cons' {α β : Type} {f : α → Option β} {x : α} {xs : List α} : optAll f (x :: xs) = (f x).bind fun y => (optAll f xs).map fun ys => y :: ys := by
  show (match f x with | none => none | some y => match optAll f xs with | none => none | some ys => some (y :: ys)) = _
  cases f x with
  | none => rfl
  | some y =>
    cases optAll f xs with
    | none => rfl
    | some ys => rfl
theorem optAll_map {α β γ : Type} {f : α → Option β} {h : γ → α} {k : γ → β} (e : ∀ c, f (h c) = some (k c)) : ∀ cs : List γ, optAll f (cs.map h) = some (cs.map k)
  | [] => rfl
  | c :: cs => by rw [List.map_cons, optAll_cons', e, optAll_map e cs]; rfl
theorem optAll_ints (n : Nat) (ns : List Int) : optAll (pyL L n) (ns.map D.int) = some (ns.map PyData.int) := optAll_map (fun c => pyL_int n c) ns
theorem eqD_of {x y : D} {p q : PyData} (h1 : pyL L 60 x = some p) (h2 : pyL L 60 y = some q) : eqD L x y = some (PyData.eqv p q) := by
  unfold eqD; rw [h1, h2]
@[simp] theorem eqD_int (i j : Int) : eqD L (.int i) (.int j) = some (i == j) := by rw [eqD_of (pyL_int _ _) (pyL_int _ _)]; rfl
@[simp] theorem eqD_str (i j : Str) : eqD L (.str i) (.str j) = some (i == j) := by rw [eqD_of (pyL_str _ _) (pyL_str _ _)]; rfl
@[simp] theorem eqD_non_str (j : Str) : eqD L .non (.str j) = some false := by rw [eqD_of (pyL_non _) (pyL_str _ _)]; rfl
theorem inD_of {x y : D} {ys : List D} {ps : List PyData} {p : PyData} (h : itemsOf L y = some ys) (h1 : optAll (pyL L 59) ys = some ps) (h2 : pyL L 60 x = some p) : inD L x y = some (ps.any fun q => PyData.eqv q p) := by
  have core : (match itemsOf L y with
    | none => none
    | some ys => match optAll (pyL L 59) ys with
      | none => none
      | some ps => match pyL L 60 x with
        | none => none
        | some p => some (ps.any fun q => PyData.eqv q p)) = some (ps.any fun q => PyData.eqv q p) := by simp only [h, h1, h2]
  cases y with
  | str z => cases h
  | non => exact core
  | bl _ => exact core
  | int _ => exact core
  | tup _ => exact core
  | lro _ => exact core
  | ref _ => exact core
  | exc _ _ _ _ _ => cases h
end
/-! ### places -/
section
variable {α : Type} {a b c d e f : α} {l : List α}
@[simp] theorem atI0 : atI (a :: l) 0 = some a := atI_nat (j := 0) rfl
@[simp] theorem atI1 : atI (a :: b :: l) 1 = some b := atI_nat (j := 1) rfl
@[simp] theorem atI2 : atI (a :: b :: c :: l) 2 = some c := atI_nat (j := 2) rfl
@[simp] theorem atI3 : atI (a :: b :: c :: d :: l) 3 = some d := atI_nat (j := 3) rfl
@[simp] theorem atI4 : atI (a :: b :: c :: d :: e :: l) 4 = some e := atI_nat (j := 4) rfl
theorem atI_in {xs : List α} {i : Int} (h0 : 0 ≤ i) (h1 : i < xs.length) : ∃ x, atI xs i = some x ∧ xs[i.toNat]? = some x ∧ x ∈ xs := by
  have h : i.toNat < xs.length := by omega
  refine ⟨xs[i.toNat], ?_, List.getElem?_eq_getElem h, List.getElem_mem h⟩
  have q := atI_nat (List.getElem?_eq_getElem h)
  rwa [show ((i.toNat : Nat) : Int) = i by omega] at q
theorem ixN_in {n : Nat} {i : Int} (h0 : 0 ≤ i) (h1 : i < n) : ixN n i = some i.toNat := by
  unfold ixN; rw [if_pos h0, if_pos h1]
@[simp] theorem ixN_30 : ixN 3 0 = some 0 := by decide
@[simp] theorem ixN_31 : ixN 3 1 = some 1 := by decide
@[simp] theorem ixN_32 : ixN 3 2 = some 2 := by decide
@[simp] theorem ixN_40 : ixN 4 0 = some 0 := by decide
@[simp] theorem ixN_41 : ixN 4 1 = some 1 := by decide
@[simp] theorem ixN_42 : ixN 4 2 = some 2 := by decide
@[simp] theorem ixN_43 : ixN 4 3 = some 3 := by decide
end
/-- what a value is, as far as a list's address is told -/
def Known (L : DH) : D → Prop
  | .ref a => ∃ xs, L a = some (.lst xs)
  | .exc _ _ _ _ _ => False
  | _ => True
theorem endOf {Q : DK} {L : DH} {d : D} (q : Q d L) : ∃ L2, Le L2 L ∧ Q d L2 := ⟨L, Le.refl, q⟩
theorem endX {E : XD} {L : DH} {n : Str} {fs : List (Str × D)} (q : E n fs L) : ∃ L2, Le L2 L ∧ E n fs L2 := ⟨L, Le.refl, q⟩
/-! ### a draw's list: what lies beside it -/
def Out (L : DH) (a c : Addr) : Prop := c ≠ a ∧ ∀ xs, L a = some (.lst xs) → ∀ d, d ∈ xs → d ≠ .ref c
def Fra (a : Addr) (L L' : DH) : Prop := ∀ c o, L c = some o → Out L a c → L' c = some o ∧ Out L' a c
theorem Fra.refl {a : Addr} {L : DH} : Fra a L L := fun _ _ h o => ⟨h, o⟩
theorem Fra.trans {a : Addr} {L L1 L2 : DH} (x : Fra a L L1) (y : Fra a L1 L2) : Fra a L L2 := fun c o h q => let ⟨h1, q1⟩ := x c o h q; y c o h1 q1
theorem fresh_ne {L : DH} {a p : Addr} {o : DO} (h : L a = some o) (hp : L p = none) : a ≠ p := by rintro rfl; rw [hp] at h; cases h
section
variable {Q : DK} {E : XD} {s : DSt} {L : DH} {d : D} {n : Str} {fs : List (Str × D)}
theorem fnE_nx : (fnEnds Q E).nx s L = ∃ L2, Le L2 L ∧ Q .non L2 := rfl
theorem fnE_rt : (fnEnds Q E).rt d L = ∃ L2, Le L2 L ∧ Q d L2 := rfl
theorem fnE_ex : (fnEnds Q E).ex n fs s L = ∃ L2, Le L2 L ∧ E n fs L2 := rfl
theorem Fra.new {a p : Addr} {L : DH} {o u : DO} (h : L a = some u) (hp : L p = none) : Fra a L (upd L p o) := fun c v hc hout =>
  ⟨by rw [updD_ne (fresh_ne hc hp)]; exact hc, hout.1, fun xs e d hd => hout.2 xs (by rw [← e, updD_ne (fresh_ne h hp)]) d hd⟩
end
end D2

set_option Elab.async false
set_option linter.all false
set_option maxRecDepth 100000
set_option maxHeartbeats 1000000
namespace D2
open PySem PySem.Spec PyProof.Rows L2
/-! ### enumerate of a tuple -/
theorem enum_made {v : Value} {o : Obj} {Hv : Heap → Prop} (B : Begins v o Hv) : Meets (Builtin.«enumerate.__new__» ⟨[.type "enumerate", v], []⟩) (fun _ R s => Hv s.heap ∧
      R (.ok (.ret (.ref (s.heap.push o).objs.size))) { s with heap := (s.heap.push o).push { cls := .type "enumerate", data := .fields #[.none, .bool false, .ref s.heap.objs.size, rawInt 0, .none, .none] } }) :=
  .of_wp fun prog w A R s h => by
    obtain ⟨hp, g, d, tk, os⟩ := s
    obtain ⟨h1, h⟩ := h
    have sube := sub_enumerate
    have it : ∀ {A' : Around} {E : Value → Shared → Prop} {Q : Value → Shared → Prop}, Q (.ref hp.objs.size) ⟨hp.push o, g, d, tk, os⟩ → wpAny (model prog w) A' (pyIter v) Q E ⟨hp, g, d, tk, os⟩ := fun q => B.iter prog w _ _ ⟨hp, g, d, tk, os⟩ _ h1 q
    wp_walk using it
    refine wpAny_stack_any fun st => (wpAny_pure ?_)
    split
    · rename_i c _ _ _ _ _
      cases (c == Value.type "enumerate") <;> (wp_walk using it; exact ⟨_, rfl, h⟩)
    · wp_walk using it
      exact ⟨_, rfl, h⟩
section
variable {prog : Program} {w : World} {A : Around} {E : Value → Shared → Prop} {s : Shared}
theorem call_enum1 {v : Value} {o : Obj} {Hv : Heap → Prop} {Q : Value → Shared → Prop} (B : Begins v o Hv) (h1 : Hv s.heap)
    (h : ∀ h', IsEnum h' (s.heap.objs.size + 1) s.heap.objs.size 0 .none → h'.get? s.heap.objs.size = some o → h'.objs.size = s.heap.objs.size + 2 → (∀ b o, s.heap.get? b = some o → h'.get? b = some o) → Q (.ref (s.heap.objs.size + 1)) { s with heap := h' }) :
    wpAny (model prog w) A (call (.type "enumerate") [v]) Q E s := by
  refine callType_new F.called_enumerate (by decide) (F.typeCall_enumerate_1 _) (F.newCall_enumerate_1 _) (fun obj => F.args_object_init_2 obj _) F.entry_enumerate_new (enum_made B) ⟨h1, ?_⟩
  have z : (s.heap.push o).objs.size = s.heap.objs.size + 1 := Heap.size_push ..
  show _ ∧ _
  rw [z]
  have e : IsEnum ((s.heap.push o).push { cls := .type "enumerate", data := .fields #[.none, .bool false, .ref s.heap.objs.size, rawInt 0, .none, .none] }) (s.heap.objs.size + 1) s.heap.objs.size 0 .none := by
    have q := Heap.get?_push_size (s.heap.push o) (o := { cls := .type "enumerate", data := .fields #[.none, .bool false, .ref s.heap.objs.size, rawInt 0, .none, .none] }) rfl
    rw [z] at q; exact q
  refine ⟨⟨_, e, rfl⟩, h _ e (Heap.get?_push_of_some _ (Heap.get?_push_size _ B.free)) (by rw [Heap.size_push, z]) fun b u x => Heap.get?_push_of_some _ (Heap.get?_push_of_some _ x)⟩
end
def Itu (K : PySem.W.Frag) (a : Addr) : It :=
  ⟨fun i H => ∃ (xs : List V) (x : V), SqT K H a xs ∧ xs[i]? = some x, fun i H v H' => ∃ T x, v = .ref T ∧ H T = none ∧ H' = L2.upd H T (.tup [.int (i : Nat), x]) ∧ ∀ xs, SqT K H a xs → xs[i]? = some x, fun i H => ∃ xs : List V, SqT K H a xs ∧ xs.length = i⟩
theorem turn_enumT {P : Program} {w : World} {K : PySem.W.Frag} {elts : List Expr} {kk : Nat} {tpos : Pos} (a e it : Addr) :
    Turn P w K (.Tuple elts kk tpos) (Itu K a) [e, it] e (fun i h => (∃ old, IsEnum h e it ((i : Nat) : Int) old) ∧ h.IsTupleIter it a i ∧ e ≠ it) where
  mem := by simp
  obj := fun i h st b hb => by
    obtain ⟨⟨old, he⟩, ⟨o, ho, hc, hd⟩, _⟩ := st
    have e' : b = e ∨ b = it := by simpa using hb
    rcases e' with z | z
    · subst z; exact ⟨_, he, fun v q => nomatch q⟩
    · subst z; exact ⟨o, ho, fun v q => by rw [hd] at q; cases q⟩
  keep := fun i h h' st k => let ⟨⟨old, he⟩, hi, hne⟩ := st; ⟨⟨old, k e (by simp) _ he⟩, hi.at fun o q => k it (by simp) o q, hne⟩
  item := by
    intro X hP hw hK hc i pins s σ H E I hf st hg
    subst hP hw hK
    obtain ⟨⟨old, he⟩, hit, hne⟩ := st
    obtain ⟨xs, x, hq, hx⟩ := hg
    obtain ⟨its, rv, p, hz⟩ := I.tuple hq
    obtain ⟨u, hu, ru⟩ := rv.get hx
    have hel : e < s.heap.objs.size := Heap.lt_size he
    have hil : it < s.heap.objs.size := by obtain ⟨_, q, _⟩ := hit; exact Heap.lt_size q
    have hai : a ≠ it := by
      obtain ⟨o1, g1, c1, _⟩ := hit
      obtain ⟨o2, g2, c2, _⟩ := p
      rintro rfl
      rw [g1] at g2; cases g2; rw [c1] at c2; exact absurd (Value.type.inj c2) (by decide)
    have hea : e ∉ [it, a] := by
      obtain ⟨o2, g2, c2, _⟩ := p
      intro z
      have z : e = it ∨ e = a := by simpa using z
      rcases z with z | z
      · exact hne z
      · subst z
        have he' : s.heap.get? e = some _ := he
        rw [he'] at g2; cases g2; exact absurd (Value.type.inj c2) (by decide)
    have hlt : i < its.toArray.size := by
      have := (List.getElem?_eq_some_iff.mp hu).1
      simpa using this
    refine wpAny_pyNext_enum_itemD (Draws.tuple (A := X.A.in1) (by have := I.ok.hd hc; simpa using this) it a hai its.toArray) he ⟨hit, p⟩ hlt hne hea fun x' h' tk hx' ho hst' hT hsz hk => ?_
    have ex : x' = u := by
      have : its.toArray[i]? = some u := by simpa using hu
      rw [this] at hx'; exact (Option.some.inj hx').symm
    subst ex
    refine ⟨_, rfl, wpAny_letOwnedTupleGo_enum (s := { s with heap := h', toks := tk + 1 }) ho fun h'' he' sb => ?_⟩
    have hT2 : h''.get? s.heap.objs.size = some { cls := .type "tuple", data := .seq #[.int i tk, x'] } := (sb.2 _ (Nat.ne_of_gt hel)).trans hT
    have new : ObjOk X.prog X.w (L2.upd H s.heap.objs.size (.tup [.int (i : Nat), x])) h'' s.heap.objs.size (.tup [.int (i : Nat), x]) :=
      ⟨by show 2 ≤ sizeLine; decide, [.int i tk, x'], .cons ⟨_, rfl⟩ (.cons ru .nil), ⟨_, hT2, rfl, _, rfl⟩⟩
    have I1 : Inv X pins σ (L2.upd H s.heap.objs.size (.tup [.int (i : Nat), x])) { s with heap := h'', toks := tk + 1 } :=
      I.turnedNew (ch := [e, it]) (fun b ob hb q => (sb.2 b (fun z => hb (by simp [z]))).trans (hk b ob (fun z => hb (by simp [z])) (fun z => hb (by simp [z])) q)) hf (Nat.le_refl _) new
    refine ⟨.ref s.heap.objs.size, _, I1, rfl, ⟨_, x, rfl, I.hok.fresh (Nat.le_refl _), rfl, fun ys hy => ?_⟩, ⟨⟨x', ?_⟩, hst'.1.at fun o q => (sb.2 it (Ne.symm hne)).trans q, hne⟩, fun b hb => ?_⟩
    · rw [I.tuple_inj hy hq]; exact hx
    · have e1 : ((i + 1 : Nat) : Int) = (i : Int) + 1 := by omega
      rw [e1]; exact he'
    · have hb' : b < s.heap.objs.size := by
        have e' : b = e ∨ b = it := by simpa using hb
        rcases e' with z | z
        · rw [z]; exact hel
        · rw [z]; exact hil
      rw [upd_ne (Nat.ne_of_lt hb')]
      exact (hf b hb).1
  done := by
    intro X hP hw hK hc i pins s σ H E I hf st hg
    subst hP hw hK
    obtain ⟨⟨old, he⟩, hit, hne⟩ := st
    obtain ⟨xs, hq, hx⟩ := hg
    obtain ⟨its, rv, p, hz⟩ := I.tuple hq
    obtain ⟨f0, f1, f2, f3, f4, f5⟩ := hf it (by simp)
    have hai : a ≠ it := by
      obtain ⟨o1, g1, c1, _⟩ := hit
      obtain ⟨o2, g2, c2, _⟩ := p
      rintro rfl
      rw [g1] at g2; cases g2; rw [c1] at c2; exact absurd (Value.type.inj c2) (by decide)
    have hn : i = its.toArray.size := by
      have := rv.length
      simp; omega
    subst hn
    exact wpAny_pyNext_enum_endD (Draws.tuple (A := X.A.in1) (by have := I.ok.hd hc; simpa using this) it a hai its.toArray) he ⟨hit, p⟩ fun h' eb => ⟨rfl, I.turned (t' := s.toks) (fun b o hb q => eb b o hb q) f0 f1 f3 f4 f5⟩
  self := fun A i s Q E st h => let ⟨⟨_, he⟩, _⟩ := st; wpAny_pyIter_enum he h
def iEnumT (K : PySem.W.Frag) (ta : TA) : TI := fun σ H R => ta σ H fun vs H1 => ∃ a xs, vs = [.ref a] ∧ (SqL K H1 a xs ∧ R (Ite K a) H1 ∨ SqT K H1 a xs ∧ R (Itu K a) H1)
theorem pi_enumT {X : Cx} {e : Expr} {ta : TA} {p pos tpos : Pos} {elts : List Expr} {kk : Nat} (hg : Gl X "enumerate") (hm : X.mg "enumerate" = none) (ha : PA X [e] ta) (hs : starEach [e] X.env = [(false, eval e X.env)] := by rfl) :
    PI X (.Tuple elts kk tpos) (.Call (.Name "enumerate" p) [e] [] pos) (iEnumT X.K ta) := by
  refine ⟨fun pins s σ H R I h => ?_⟩
  refine Call_ (ld_blt I hg hm boot_enumerate (PyProof.Rows.callWith_type1 (thn (ha.run pos pins s σ H _ I h) fun us s1 ⟨vs, H1, I1, r1, q1⟩ => ?_) hs rfl))
  obtain ⟨a, xs, ex, q⟩ := q1
  subst ex
  cases r1 with
  | cons r rr =>
    cases rr
    cases r
    have fr : ∀ b, b ∈ [s1.heap.objs.size + 1, s1.heap.objs.size] → s1.heap.objs.size ≤ b := fun b hb => by
      have e' : b = s1.heap.objs.size + 1 ∨ b = s1.heap.objs.size := by simpa using hb
      rcases e' with z | z
      · rw [z]; exact Nat.le_add_right _ _
      · rw [z]; exact Nat.le_refl _
    rcases q with ⟨hq, q⟩ | ⟨hq, q⟩
    · obtain ⟨its, rv, p', hz⟩ := I1.list hq
      refine call_enumerate_list p'.isList fun h' he hit hsz hk => (wpAny_pyIter_enum he ?_)
      have I2 : Inv X pins σ H1 { s1 with heap := h' } := I1.kept (t' := s1.toks) hk
      exact ⟨s1.heap.objs.size + 1, [s1.heap.objs.size + 1, s1.heap.objs.size], _, _, H1, rfl, I2, turn_enum a (s1.heap.objs.size + 1) s1.heap.objs.size, ⟨⟨.none, he⟩, hit, Nat.succ_ne_self _⟩, fun b hb => I1.fpOk (fr b hb) (I1.hok.fresh (fr b hb)), q⟩
    · obtain ⟨its, rv, p', hz⟩ := I1.tuple hq
      refine call_enum1 (begins_tuple a its.toArray) (show s1.heap.IsTuple a its.toArray from p') fun h' he hit hsz hk => (wpAny_pyIter_enum he ?_)
      have I2 : Inv X pins σ H1 { s1 with heap := h' } := I1.kept (t' := s1.toks) hk
      exact ⟨s1.heap.objs.size + 1, [s1.heap.objs.size + 1, s1.heap.objs.size], _, _, H1, rfl, I2, turn_enumT a (s1.heap.objs.size + 1) s1.heap.objs.size, ⟨⟨.none, he⟩, ⟨_, hit, rfl, rfl⟩, Nat.succ_ne_self _⟩, fun b hb => I1.fpOk (fr b hb) (I1.hok.fresh (fr b hb)), q⟩
/-! in data -/
def enumD : Nat → List D → List D
  | _, [] => []
  | i, d :: ds => .tup [.int (i : Nat), d] :: enumD (i + 1) ds
theorem enumD_length : ∀ (i : Nat) (ds : List D), (enumD i ds).length = ds.length
  | _, [] => rfl
  | i, d :: ds => by simp [enumD, enumD_length (i + 1) ds]
theorem enumD_get : ∀ (i j : Nat) (ds : List D) (x : D), (enumD i ds)[j]? = some x → ∃ d, ds[j]? = some d ∧ x = .tup [.int ((i + j : Nat) : Int), d]
  | _, _, [], _, h => by simp [enumD] at h
  | i, 0, d :: ds, x, h => by simp [enumD] at h; exact ⟨d, rfl, h.symm⟩
  | i, j + 1, d :: ds, x, h => by
    simp only [enumD, List.getElem?_cons_succ] at h
    obtain ⟨y, h1, h2⟩ := enumD_get (i + 1) j ds x h
    exact ⟨y, by simpa using h1, by rw [h2]; congr 4; omega⟩
def dEnum (t : DA) : DI := fun s L Q E => t s L (fun as L1 => ∃ d ds ok, as = [d] ∧ isSeq L1 d = some (ds, ok) ∧ Q (enumD 0 ds) ok L1) E
section
variable {K : PySem.W.Frag}
theorem itOk_E {a : Addr} {ds : List D} {ok : DH → Prop} {H0 : Hp} (h : ∀ H L, TK H0 H → HR K H L → ok L → ∃ vs, SqL K H a vs ∧ RepL K H ds vs) : ItOk K (Ite K a) (enumD 0 ds) ok H0 := fun i H L tk hr hok => by
  obtain ⟨vs, sq, r⟩ := h H L tk hr hok
  refine ⟨fun e => ⟨vs, sq, by rw [← r.length, e, enumD_length]; exact Nat.le_refl _⟩, fun d e => ?_⟩
  obtain ⟨y, e1, rfl⟩ := enumD_get 0 i ds d e
  obtain ⟨v, e2, rv⟩ := r.get e1
  refine ⟨⟨vs, v, sq, e2⟩, fun x H' ⟨T, x', e3, hT, e4, y⟩ => ?_⟩
  subst e3 e4
  have := y vs sq
  rw [e2] at this
  cases this
  have tkn : TK H (L2.upd H T (.tup [.int (i : Nat), v])) := HR.tk_new hT
  exact ⟨⟨T, _, rfl, .inl (.inl upd_same), _, _, rfl, by simp [Rep], _, _, rfl, Rep.tk tkn _ _ rv, rfl⟩, (hr.laid hT).1, (hr.laid hT).2, tkn⟩
theorem itOk_U {a : Addr} {ds : List D} {ok : DH → Prop} {H0 : Hp} (h : ∀ H L, TK H0 H → HR K H L → ok L → ∃ vs, SqT K H a vs ∧ RepL K H ds vs) : ItOk K (Itu K a) (enumD 0 ds) ok H0 := fun i H L tk hr hok => by
  obtain ⟨vs, sq, r⟩ := h H L tk hr hok
  refine ⟨fun e => ⟨vs, sq, by rw [← r.length, e, enumD_length]⟩, fun d e => ?_⟩
  obtain ⟨y, e1, rfl⟩ := enumD_get 0 i ds d e
  obtain ⟨v, e2, rv⟩ := r.get e1
  refine ⟨⟨vs, v, sq, e2⟩, fun x H' ⟨T, x', e3, hT, e4, y⟩ => ?_⟩
  subst e3 e4
  have := y vs sq
  rw [e2] at this
  cases this
  have tkn : TK H (L2.upd H T (.tup [.int (i : Nat), v])) := HR.tk_new hT
  exact ⟨⟨T, _, rfl, .inl (.inl upd_same), _, _, rfl, by simp [Rep], _, _, rfl, Rep.tk tkn _ _ rv, rfl⟩, (hr.laid hT).1, (hr.laid hT).2, tkn⟩
end
theorem qi_enum {X : Cx} {W : WX} {e : Expr} {ta : DA} {p pos tpos : Pos} {elts : List Expr} {kk : Nat} (hm : X.mg "enumerate" = none) (ha : QA X W [e] ta) (hg : Gl X "enumerate" := by rfl) (hs : starEach [e] X.env = [(false, eval e X.env)] := by rfl) :
    QI X W (.Tuple elts kk tpos) (.Call (.Name "enumerate" p) [e] [] pos) (dEnum ta) :=
  ⟨PI_mono (pi_enumT hg hm ha.pa hs) fun σ H R ⟨s, L, Qd, Ed, hs, hr, q, hq, lp⟩ => liftA_bind hs hr lp q fun as L1 xs H1 ⟨d, ds, ok, ea, e, q1⟩ r1 hr1 k1 hs1 t1 lp1 => by
    subst ea
    obtain ⟨x, ex, rx⟩ := r1.one_inv
    subst ex
    cases d with
    | tup xs =>
      cases e
      obtain ⟨a, vs, e2, sq, rl⟩ := rx
      exact ⟨a, vs, by rw [e2], .inr ⟨sq, hq _ _ L1 H1 _ q1 hr1 k1 (itOk_U fun H L tk _ _ => ⟨vs, tk.sqT sq, RepL.tk tk _ _ rl⟩)⟩⟩
    | lro xs =>
      cases e
      obtain ⟨a, vs, e2, sq, rl⟩ := rx
      exact ⟨a, vs, by rw [e2], .inl ⟨sq.sq, hq _ _ L1 H1 _ q1 hr1 k1 (itOk_E fun H L tk _ _ => ⟨vs, (tk.fzL sq).sq, RepL.tk tk _ _ rl⟩)⟩⟩
    | ref a =>
      have e : (match L1 a with | some (DO.lst ds) => some (ds, fun L' : DH => L' a = some (DO.lst ds)) | _ => none) = some (ds, ok) := e
      cases hL : L1 a with
      | some o =>
        cases o with
        | dct _ => rw [hL] at e; cases e
        | dtp _ => rw [hL] at e; cases e
        | obj _ _ => rw [hL] at e; cases e
        | lst xs =>
        rw [hL] at e
        cases e
        obtain ⟨vs, h1, rl⟩ := hr1 a _ hL
        cases (show x = _ from rx)
        exact ⟨a, vs, rfl, .inl ⟨SqL.of h1, hq _ _ L1 H1 _ q1 hr1 k1 (itOk_E fun H L tk hr hok => let ⟨us, h2, r2⟩ := hr a _ hok; ⟨us, SqL.of h2, r2⟩)⟩⟩
      | none => rw [hL] at e; cases e
    | _ => cases e⟩
end D2

set_option Elab.async false
set_option linter.all false
set_option maxRecDepth 100000
set_option maxHeartbeats 1000000
namespace D2
open PySem PySem.Spec PyProof.Rows L2
/-! ### two fors in a comprehension -/
def lc2D (g : DG) (t : DT) (di1 : DI) (g1 : DG) (t1 : DT) (e : DE) (vs1 : List Nat) (ok : DH → Prop) (s : DSt) (Q : List D → DH → Prop) : List D → List D → DH → Prop
  | [], acc, L => ok L ∧ Q acc L
  | d :: ds, acc, L => ok L ∧ g d s L (fun s1 L1 => t s1 L1 (fun b L2 => if b = true then di1 s1 L2 (fun ds1 ok1 L3 => lcD g1 t1 e ok1 (dwipe s1 vs1) (fun acc' L4 => lc2D g t di1 g1 t1 e vs1 ok s Q ds acc' L4) ds1 acc L3) (fun _ _ _ => False)
      else lc2D g t di1 g1 t1 e vs1 ok s Q ds acc L2) (fun _ _ _ => False)) (fun _ _ _ => False)
def dLc2 (di : DI) (g : DG) (t : DT) (di1 : DI) (g1 : DG) (t1 : DT) (e : DE) (vs vs1 : List Nat) : DE := fun s L Q E => di s L (fun ds ok L1 => lc2D g t di1 g1 t1 e vs1 ok (dwipe s vs) (fun acc L2 => ∀ p, L2 p = none → Q (.ref p) (upd L2 p (.lst acc))) ds [] L1) E
theorem lift_lc2 {M : KM} {W : WX} {di di1 : DI} {g g1 : DG} {G G1 : TG} {t t1 : DT} {e : DE} {vs vs1 : List Nat} (lG : liftGo M.K vs g G) (lG1 : liftGo M.K vs1 g1 G1) {σ : L2.St} {H : Hp} {Q : VK} (q : liftE M W (dLc2 di g t di1 g1 t1 e vs vs1) σ H Q) :
    tLc2 (liftI M W di) G (liftT M W0 t) (liftI M W0 di1) G1 (liftT M W0 t1) (liftE M W0 e) vs vs1 σ H Q := by
  obtain ⟨s, L, Qd, Ed, hs, hr, q, hq, lp⟩ := q
  refine ⟨s, L, _, Ed, hs, hr, q, fun ds ok L1 H1 J q hr1 k1 ito D hD => ?_, lp⟩
  have hLD : L1 D = none := hr1.free hD
  have hs1 : SR M.K H1 s σ := hs.tk (k1.tk hr)
  refine ⟨fun i m H' => ∃ acc vacc L', i ≤ ds.length ∧ m = ds.length - i ∧ HR M.K H' L' ∧ TK H1 H' ∧ Kp H L H' L' ∧ L' D = none ∧ H' D = some (.lst vacc) ∧ RepL M.K H' acc vacc ∧
    lc2D g t di1 g1 t1 e vs1 ok (dwipe s vs) (fun acc L2 => ∀ p, L2 p = none → Qd (.ref p) (upd L2 p (.lst acc))) (ds.drop i) acc L', ⟨_, [], [], L1, Nat.zero_le _, rfl, (hr1.laid hD).1, HR.tk_new hD, k1.trans (hr1.laid hD).2, hLD, upd_same, rfl, q⟩, ?_⟩
  rintro i m H' ⟨acc, vacc, L', hi, rfl, hr', tk', k', hL', hH', ra, q'⟩
  by_cases hlt : i < ds.length
  · have ed : ds.drop i = ds[i] :: ds.drop (i + 1) := List.drop_eq_getElem_cons hlt
    rw [ed] at q'
    obtain ⟨hok, q'⟩ := q'
    obtain ⟨go, yl⟩ := (ito i H' L' tk' hr' hok).2 ds[i] (List.getElem?_eq_getElem hlt)
    let Nxt : Hp → Prop := fun H2 => ∃ acc vacc L2, HR M.K H2 L2 ∧ TK H1 H2 ∧ Kp H L H2 L2 ∧ L2 D = none ∧ H2 D = some (.lst vacc) ∧ RepL M.K H2 acc vacc ∧
      lc2D g t di1 g1 t1 e vs1 ok (dwipe s vs) (fun acc L2 => ∀ p, L2 p = none → Qd (.ref p) (upd L2 p (.lst acc))) (ds.drop (i + 1)) acc L2
    refine .inr ⟨go, Nxt, fun H2 ⟨a, b, c, q⟩ => ⟨ds.length - (i + 1), by omega, a, b, c, hlt, rfl, q⟩, fun x H'' y => ?_⟩
    obtain ⟨ry, hry, ky, ty⟩ := yl x H'' y
    have ssw : SR M.K H'' (dwipe s vs) (L2.wipe σ vs) := (hs1.tk (tk'.trans ty)).wipe vs
    refine lG ds[i] x (dwipe s vs) (L2.wipe σ vs) H'' L' _ _ ry ssw hry q' fun s2 LB σ2 H2 q2 hs2 hr2 k2 w2 => ⟨by rw [w2]; exact ww σ vs, ?_⟩
    refine liftT_bind hs2 hr2 lp0 q2 fun b L3 H3 q3 hr3 k3 hs3 t3 lp3 => ?_
    have keepD : ∀ {vacc : List V} {Ha Hb : Hp} {La Lb : DH}, Kp Ha La Hb Lb → Ha D = some (.lst vacc) → La D = none → Hb D = some (.lst vacc) ∧ Lb D = none := fun k a b => k D _ a b
    obtain ⟨d1, l1⟩ := keepD ky hH' hL'
    obtain ⟨d2, l2⟩ := keepD k2 d1 hL'
    obtain ⟨d3, l3⟩ := keepD k3 d2 l2
    have tk3 : TK H' H3 := (ty.trans (k2.tk hry)).trans t3
    have kp3 : Kp H L H3 L3 := ((k'.trans ky).trans k2).trans k3
    cases b with
    | false =>
      exact (if_neg Bool.false_ne_true).mpr ⟨acc, vacc, L3, hr3, tk'.trans tk3, kp3, l3, d3, RepL.tk tk3 _ _ ra, (if_neg Bool.false_ne_true).mp q3⟩
    | true =>
      refine (if_pos rfl).mpr ⟨s2, L3, _, _, hs3, hr3, (if_pos rfl).mp q3, fun ds1 ok1 L4 H4 J1 q4 hr4 k4 ito1 => ?_, lp0⟩
      have t4 : TK H3 H4 := k4.tk hr3
      obtain ⟨d4, l4⟩ := keepD k4 d3 l3
      refine ⟨fun j k H5 => ∃ acc vacc L5, j ≤ ds1.length ∧ k = ds1.length - j ∧ HR M.K H5 L5 ∧ TK H4 H5 ∧ Kp H L H5 L5 ∧ L5 D = none ∧ H5 D = some (.lst vacc) ∧ RepL M.K H5 acc vacc ∧
        lcD g1 t1 e ok1 (dwipe s2 vs1) (fun acc' L4 => lc2D g t di1 g1 t1 e vs1 ok (dwipe s vs) (fun acc L2 => ∀ p, L2 p = none → Qd (.ref p) (upd L2 p (.lst acc))) (ds.drop (i + 1)) acc' L4) (ds1.drop j) acc L5,
        ⟨_, acc, vacc, L4, Nat.zero_le _, rfl, hr4, .refl _, kp3.trans k4, l4, d4, RepL.tk (tk3.trans t4) _ _ ra, q4⟩, ?_⟩
      rintro j k H5 ⟨acc5, vacc5, L5, hj, rfl, hr5, tk5, k5, l5, d5, ra5, q5⟩
      by_cases hlt1 : j < ds1.length
      · have ed1 : ds1.drop j = ds1[j] :: ds1.drop (j + 1) := List.drop_eq_getElem_cons hlt1
        rw [ed1] at q5
        obtain ⟨hok1, q5⟩ := q5
        obtain ⟨go1, yl1⟩ := (ito1 j H5 L5 tk5 hr5 hok1).2 ds1[j] (List.getElem?_eq_getElem hlt1)
        refine .inr ⟨go1, fun H6 => ∃ acc vacc L6, HR M.K H6 L6 ∧ TK H4 H6 ∧ Kp H L H6 L6 ∧ L6 D = none ∧ H6 D = some (.lst vacc) ∧ RepL M.K H6 acc vacc ∧
          lcD g1 t1 e ok1 (dwipe s2 vs1) (fun acc' L4 => lc2D g t di1 g1 t1 e vs1 ok (dwipe s vs) (fun acc L2 => ∀ p, L2 p = none → Qd (.ref p) (upd L2 p (.lst acc))) (ds.drop (i + 1)) acc' L4) (ds1.drop (j + 1)) acc L6, fun H6 ⟨a, b, c, q⟩ => ⟨ds1.length - (j + 1), by omega, a, b, c, hlt1, rfl, q⟩, fun x1 H6 y1 => ?_⟩
        obtain ⟨ry1, hry1, ky1, ty1⟩ := yl1 x1 H6 y1
        have ssw1 : SR M.K H6 (dwipe s2 vs1) (L2.wipe σ2 vs1) := (((hs3.tk t4).tk tk5).tk ty1).wipe vs1
        refine lG1 ds1[j] x1 (dwipe s2 vs1) (L2.wipe σ2 vs1) H6 L5 _ _ ry1 ssw1 hry1 q5 fun s7 L7 σ7 H7 q7 hs7 hr7 k7 w7 => ⟨by rw [w7]; exact ww σ2 vs1, ?_⟩
        refine liftT_bind hs7 hr7 lp0 q7 fun b L8 H8 q8 hr8 k8 hs8 t8 lp8 => ?_
        obtain ⟨d6, l6⟩ := keepD ky1 d5 l5
        obtain ⟨d7, l7⟩ := keepD k7 d6 l5
        obtain ⟨d8, l8⟩ := keepD k8 d7 l7
        have tk8 : TK H5 H8 := (ty1.trans (k7.tk hry1)).trans t8
        have kp8 : Kp H L H8 L8 := ((k5.trans ky1).trans k7).trans k8
        cases b with
        | false =>
          exact (if_neg Bool.false_ne_true).mpr ⟨acc5, vacc5, L8, hr8, tk5.trans tk8, kp8, l8, d8, RepL.tk tk8 _ _ ra5, (if_neg Bool.false_ne_true).mp q8⟩
        | true =>
          refine (if_pos rfl).mpr ?_
          refine liftE_bind hs8 hr8 lp8 ((if_pos rfl).mp q8) fun y L9 v H9 ⟨hlen, q9⟩ r9 hr9 k9 hs9 t9 lp9 => ?_
          obtain ⟨d9, l9⟩ := keepD k9 d8 l8
          have ra9 : RepL M.K H9 acc5 vacc5 := RepL.tk (tk8.trans t9) _ _ ra5
          refine ⟨vacc5, d9, by rw [← ra9.length]; exact line_lt hlen, ?_⟩
          have tkn : TK H9 (L2.upd H9 D (.lst (vacc5 ++ [v]))) := fun a o h im => by
            rw [upd_ne]; exact h
            rintro rfl
            rw [d9] at h; cases h; exact im.elim
          have hrn : HR M.K (L2.upd H9 D (.lst (vacc5 ++ [v]))) L9 := fun a o h => by
            have ne : a ≠ D := by rintro rfl; rw [l9] at h; cases h
            exact (hr9 a o h).tk tkn fun u hu => by rw [upd_ne ne]; exact hu
          refine ⟨acc5 ++ [y], vacc5 ++ [v], L9, hrn, ((tk5.trans tk8).trans t9).trans tkn, fun a o h n => ?_, l9, upd_same, RepL.tk tkn _ _ (ra9.append (.one r9)), q9⟩
          obtain ⟨e1, e2⟩ := (kp8.trans k9) a o h n
          have ne : a ≠ D := by
            rintro rfl
            have := (k1 a o h n).1
            rw [hD] at this; cases this
          exact ⟨by rw [upd_ne ne]; exact e1, e2⟩
      · have ee : j = ds1.length := by omega
        subst ee
        rw [List.drop_length] at q5
        obtain ⟨hok1, q5⟩ := q5
        exact .inl ⟨(ito1 _ H5 L5 tk5 hr5 hok1).1 rfl, acc5, vacc5, L5, hr5, ((tk'.trans tk3).trans t4).trans tk5, k5, l5, d5, ra5, q5⟩
  · have ee : i = ds.length := by omega
    subst ee
    rw [List.drop_length] at q'
    obtain ⟨hok, q'⟩ := q'
    refine .inl ⟨(ito _ H' L' tk' hr' hok).1 rfl, hq (.ref D) _ (.ref D) H' (q' D hL') rfl (fun a o h => ?_) fun a o h n => ?_⟩
    · by_cases ea : a = D
      · subst ea
        rw [updD_same] at h; cases h
        exact ⟨vacc, hH', ra⟩
      · rw [updD_ne ea] at h
        exact hr' a o h
    · obtain ⟨e1, e2⟩ := k' a o h n
      have ne : a ≠ D := by
        rintro rfl
        have := (k1 a o h n).1
        rw [hD] at this; cases this
      exact ⟨e1, by rw [updD_ne ne]; exact e2⟩
section
variable {X : Cx} {W : WX} {pos : Pos}
theorem qe_lc2 {elt tg iter tg1 iter1 : Expr} {ifs ifs1 : List Expr} {scope : Scope} {own : List (Str × Nat)} {vs1 : List Nat} {di di1 : DI} {g g1 : DG} {G G1 : TG} {t t1 : DT} {e : DE} (hc : X.calm = true) (hN : X.N.Nodup) (hi : QI X W tg iter di) (ok : BlkOk X.N X.env.scope scope own) (hv : ∀ i ∈ vs1, i ∈ own.map (·.2))
    (hg : ∀ (s : Shared) (H : Hp) (C : Addr) (cl : List (Str × Addr)) (fp : List Addr), PG (X.blk s H scope (compEnvC scope cl C X.env) fp) tg G) (lG : liftGo X.K (own.map (·.2)) g G)
    (ht : ∀ (s : Shared) (H : Hp) (C : Addr) (cl : List (Str × Addr)) (fp : List Addr), QTs (X.blk s H scope (compEnvC scope cl C X.env) fp) W0 ifs t)
    (hi1 : ∀ (s : Shared) (H : Hp) (C : Addr) (cl : List (Str × Addr)) (fp : List Addr), QI (X.blk s H scope (compEnvC scope cl C X.env) fp) W0 tg1 iter1 di1)
    (hg1 : ∀ (s : Shared) (H : Hp) (C : Addr) (cl : List (Str × Addr)) (fp : List Addr), PG (X.blk s H scope (compEnvC scope cl C X.env) fp) tg1 G1) (lG1 : liftGo X.K vs1 g1 G1)
    (ht1 : ∀ (s : Shared) (H : Hp) (C : Addr) (cl : List (Str × Addr)) (fp : List Addr), QTs (X.blk s H scope (compEnvC scope cl C X.env) fp) W0 ifs1 t1)
    (he : ∀ (s : Shared) (H : Hp) (C : Addr) (cl : List (Str × Addr)) (fp : List Addr), QE (X.blk s H scope (compEnvC scope cl C X.env) fp) W0 elt e)
    (hs : ∀ x, foldedSetIterable iter X.env x = pure x := by intro _; rfl) (hs1 : ∀ env x, foldedSetIterable iter1 env x = pure x := by intro _ _; rfl) :
    QE X W (.ListComp elt [⟨tg, iter, ifs, 0⟩, ⟨tg1, iter1, ifs1, 0⟩] scope pos) (dLc2 di g t di1 g1 t1 e (own.map (·.2)) vs1) :=
  ⟨PE_mono (pe_lc2 hc hN hi.pi ok hv hg (fun s H C cl fp => (ht s H C cl fp).pt) (fun s H C cl fp => (hi1 s H C cl fp).pi) hg1 (fun s H C cl fp => (ht1 s H C cl fp).pt) (fun s H C cl fp => (he s H C cl fp).pe) hs hs1) fun _ _ _ q => lift_lc2 lG lG1 q⟩
theorem qs_setLc2 {i : Nat} {y : Str} {py spos : Pos} {elt tg iter tg1 iter1 : Expr} {ifs ifs1 : List Expr} {scope : Scope} {own : List (Str × Nat)} {vs1 : List Nat} {di di1 : DI} {g g1 : DG} {G G1 : TG} {t t1 : DT} {e : DE} (hc : X.calm = true) (hN : X.N.Nodup) (hi : QI X W tg iter di) (ok : BlkOk X.N X.env.scope scope own) (hv : ∀ i ∈ vs1, i ∈ own.map (·.2))
    (hg : ∀ (s : Shared) (H : Hp) (C : Addr) (cl : List (Str × Addr)) (fp : List Addr), PG (X.blk s H scope (compEnvC scope cl C X.env) fp) tg G) (lG : liftGo X.K (own.map (·.2)) g G)
    (ht : ∀ (s : Shared) (H : Hp) (C : Addr) (cl : List (Str × Addr)) (fp : List Addr), QTs (X.blk s H scope (compEnvC scope cl C X.env) fp) W0 ifs t)
    (hi1 : ∀ (s : Shared) (H : Hp) (C : Addr) (cl : List (Str × Addr)) (fp : List Addr), QI (X.blk s H scope (compEnvC scope cl C X.env) fp) W0 tg1 iter1 di1)
    (hg1 : ∀ (s : Shared) (H : Hp) (C : Addr) (cl : List (Str × Addr)) (fp : List Addr), PG (X.blk s H scope (compEnvC scope cl C X.env) fp) tg1 G1) (lG1 : liftGo X.K vs1 g1 G1)
    (ht1 : ∀ (s : Shared) (H : Hp) (C : Addr) (cl : List (Str × Addr)) (fp : List Addr), QTs (X.blk s H scope (compEnvC scope cl C X.env) fp) W0 ifs1 t1)
    (he : ∀ (s : Shared) (H : Hp) (C : Addr) (cl : List (Str × Addr)) (fp : List Addr), QE (X.blk s H scope (compEnvC scope cl C X.env) fp) W0 elt e)
    (hsw : swapsWith (.ListComp elt [⟨tg, iter, ifs, 0⟩, ⟨tg1, iter1, ifs1, 0⟩] scope pos) (some (.Name y py)) spos.line X.env = pure true)
    (hy : X.N[i]? = some y := by rfl) (hyl : X.env.scope.names.lookup y = some .local := by rfl) (hs : ∀ x, foldedSetIterable iter X.env x = pure x := by intro _; rfl) (hs1 : ∀ env x, foldedSetIterable iter1 env x = pure x := by intro _ _; rfl) :
    QS X W (.Assign [.Name y py] (.ListComp elt [⟨tg, iter, ifs, 0⟩, ⟨tg1, iter1, ifs1, 0⟩] scope pos) spos) (sAsg (dLc2 di g t di1 g1 t1 e (own.map (·.2)) vs1) (gdName i)) :=
  ⟨PS_mono (ps_setLc2 hc hN hy hyl hsw hi.pi ok hv hg (fun s H C cl fp => (ht s H C cl fp).pt) (fun s H C cl fp => (hi1 s H C cl fp).pi) hg1 (fun s H C cl fp => (ht1 s H C cl fp).pt) (fun s H C cl fp => (he s H C cl fp).pe) hs hs1) fun Dn σ H ⟨s, L, dn, hs, hr, h, p⟩ =>
    lift_lc2 lG lG1 (Q := fun x H1 => gName i x σ H1 Dn.nx) (liftE_bind hs hr (p.lp hs hr) h fun d L1 x H1 q1 r1 hr1 k1 hs1 t1 lp1 => p.nx _ L1 _ H1 q1 (hs1.set r1 i) hr1 k1)⟩
/-! ### ranges as lists, tuples -/
def dListRg1 (da : DE) : DE := fun s L Q E => da s L (fun d L1 => match d with | .int n => RgOk 0 n ∧ ∀ p, L1 p = none → Q (.ref p) (upd L1 p (.lst (rngD 0 n.toNat))) | _ => False) E
def dListRg2 (da db : DE) : DE := fun s L Q E => da s L (fun d L1 => db s L1 (fun e L2 => match d, e with | .int a, .int b => RgOk a b ∧ ∀ p, L2 p = none → Q (.ref p) (upd L2 p (.lst (rngD a (b - a).toNat))) | _, _ => False) E) E
def dTupRg1 (da : DE) : DE := fun s L Q E => da s L (fun d L1 => match d with | .int n => RgOk 0 n ∧ Q (.tup (rngD 0 n.toNat)) L1 | _ => False) E
def dTupRg2 (da db : DE) : DE := fun s L Q E => da s L (fun d L1 => db s L1 (fun e L2 => match d, e with | .int a, .int b => RgOk a b ∧ Q (.tup (rngD a (b - a).toNat)) L2 | _, _ => False) E) E
theorem repL_rg {K : PySem.W.Frag} {H : Hp} (a b : Int) : RepL K H (rngD a (b - a).toNat) (rgV a b) := by
  have e1 : rngD a (b - a).toNat = ((List.range (b - a).toNat).map fun (i : Nat) => a + (i : Int)).map D.int := by unfold rngD; rw [List.map_map]; rfl
  have e2 : rgV a b = ((List.range (b - a).toNat).map fun (i : Nat) => a + (i : Int)).map V.int := by unfold rgV; rw [List.map_map]; rfl
  rw [e1, e2]; exact repL_of_ints _
theorem q_listRg1 {a : Expr} {da : DE} {p pos : Pos} {p2 pos2 : Pos} (hm : X.mg "list" = none) (hm2 : X.mg "range" = none) (ha : QE X W a da) (hc : X.calm = true := by rfl) (hg : Gl X "list" := by rfl) (hg2 : Gl X "range" := by rfl)
    (n1 : starEach [.Call (.Name "range" p2) [a] [] pos2] X.env = (false, eval (.Call (.Name "range" p2) [a] [] pos2) X.env) :: starEach [] X.env := by rfl) (n2 : starEach [a] X.env = (false, eval a X.env) :: starEach [] X.env := by rfl) :
    QE X W (.Call (.Name "list" p) [.Call (.Name "range" p2) [a] [] pos2] [] pos) (dListRg1 da) :=
  ⟨PE_mono (pe_listRg hc hg hm (prg_1 hg2 hm2 ha.pe n2) n1) fun σ H Q ⟨s, L, Qd, Ed, hs, hr, q, hq, lp⟩ => liftE_bind hs hr lp q fun d L1 x H1 q1 r1 hr1 k1 hs1 t1 lp1 => by
    cases d with
    | int n =>
      refine ⟨n, r1, q1.1, fun p hp => ?_⟩
      have rl : RepL X.K H1 (rngD 0 n.toNat) (rgV 0 n) := by have := repL_rg (K := X.K) (H := H1) 0 n; simpa using this
      exact hq _ _ _ _ (q1.2 p (hr1.free hp)) rfl (hr1.new hp rl).1 (k1.trans (hr1.new hp rl).2)
    | _ => exact False.elim q1⟩
theorem q_listRg2 {a b : Expr} {da db : DE} {p pos : Pos} {p2 pos2 : Pos} (hm : X.mg "list" = none) (hm2 : X.mg "range" = none) (ha : QE X W a da) (hb : QE X W b db) (hc : X.calm = true := by rfl) (hg : Gl X "list" := by rfl) (hg2 : Gl X "range" := by rfl)
    (n1 : starEach [.Call (.Name "range" p2) [a, b] [] pos2] X.env = (false, eval (.Call (.Name "range" p2) [a, b] [] pos2) X.env) :: starEach [] X.env := by rfl) (n2 : starEach [a, b] X.env = (false, eval a X.env) :: starEach [b] X.env := by rfl) (n3 : starEach [b] X.env = (false, eval b X.env) :: starEach [] X.env := by rfl) (n4 : (backTo pos2 (starEach [b] X.env)).any (·.1) = false := by rfl) :
    QE X W (.Call (.Name "list" p) [.Call (.Name "range" p2) [a, b] [] pos2] [] pos) (dListRg2 da db) :=
  ⟨PE_mono (pe_listRg hc hg hm (prg_2 hg2 hm2 ha.pe hb.pe n2 n3 n4) n1) fun σ H Q ⟨s, L, Qd, Ed, hs, hr, q, hq, lp⟩ => liftE_bind hs hr lp q fun d L1 x H1 q1 r1 hr1 k1 hs1 t1 lp1 => liftE_bind hs1 hr1 lp1 q1 fun e LB y H2 q2 r2 hr2 k2 hs2 t2 lp2 => by
    cases d with
    | int n =>
      cases e with
      | int m =>
        refine ⟨n, m, r1, r2, q2.1, fun p hp => ?_⟩
        have rl : RepL X.K H2 (rngD n (m - n).toNat) (rgV n m) := repL_rg n m
        exact hq _ _ _ _ (q2.2 p (hr2.free hp)) rfl (hr2.new hp rl).1 ((k1.trans k2).trans (hr2.new hp rl).2)
      | _ => exact False.elim q2
    | _ => exact False.elim q2⟩
theorem q_tupRg1 {a : Expr} {da : DE} {p pos : Pos} {p2 pos2 : Pos} (hm : X.mg "tuple" = none) (hm2 : X.mg "range" = none) (ha : QE X W a da) (hc : X.calm = true := by rfl) (hg : Gl X "tuple" := by rfl) (hg2 : Gl X "range" := by rfl)
    (n1 : starEach [.Call (.Name "range" p2) [a] [] pos2] X.env = (false, eval (.Call (.Name "range" p2) [a] [] pos2) X.env) :: starEach [] X.env := by rfl) (n2 : starEach [a] X.env = (false, eval a X.env) :: starEach [] X.env := by rfl) :
    QE X W (.Call (.Name "tuple" p) [.Call (.Name "range" p2) [a] [] pos2] [] pos) (dTupRg1 da) :=
  ⟨PE_mono (pe_tupRg hc hg hm (prg_1 hg2 hm2 ha.pe n2) n1) fun σ H Q ⟨s, L, Qd, Ed, hs, hr, q, hq, lp⟩ => liftE_bind hs hr lp q fun d L1 x H1 q1 r1 hr1 k1 hs1 t1 lp1 => by
    cases d with
    | int n =>
      refine ⟨n, r1, q1.1, fun p hp => ?_⟩
      have rl : RepL X.K H1 (rngD 0 n.toNat) (rgV 0 n) := by have := repL_rg (K := X.K) (H := H1) 0 n; simpa using this
      exact hq _ L1 _ _ q1.2 ⟨p, _, rfl, .inl (.inl upd_same), RepL.tk (HR.tk_new hp) _ _ rl⟩ (hr1.laid hp).1 (k1.trans (hr1.laid hp).2)
    | _ => exact False.elim q1⟩
end
/-! ### times -/
abbrev rRepAll (K : PySem.W.Frag) : R2 := fun x y H Q => rRep x y H Q ∨ rRepT K x y H Q
theorem op_repAll {X : Cx} : OpR X (binaryOp .Mult) (rRepAll X.K) := op_rep.or op_repT
def dRep : RD2 := fun x y L Q => match x, y with
  | .ref a, .int k => ∃ xs, L a = some (.lst xs) ∧ -(2 ^ 63) ≤ k ∧ k < 2 ^ 63 ∧ xs.length * k.toNat ≤ 16777216 ∧ ∀ p, L p = none → Q (.ref p) (upd L p (.lst (List.replicate k.toNat xs).flatten))
  | .tup xs, .int k => xs ≠ [] ∧ 2 ≤ k ∧ k ≤ 1000 ∧ xs.length ≤ 1000 ∧ Q (.tup (List.replicate k.toNat xs).flatten) L
  | _, _ => False
theorem opd_rep {K : PySem.W.Frag} : OpD K (rRepAll K) dRep := fun H L d e x y Qd Q rx ry hr q k => by
  cases e with
  | int n =>
    cases d with
    | ref a =>
      obtain ⟨xs, h1, b1, b2, hl, q⟩ := q
      obtain ⟨vs, g1, r1⟩ := hr a _ h1
      exact .inl ⟨a, n, vs, rx, ry, g1, b1, b2, by rw [← r1.length]; exact line_of hl, fun p hp => k _ _ _ _ (q p (hr.free hp)) rfl (hr.new hp (r1.rep _)).1 (hr.new hp (r1.rep _)).2⟩
    | tup xs =>
      obtain ⟨hne, b1, b2, hl, q⟩ := q
      obtain ⟨a, vs, e1, s1, r1⟩ := rx
      have hl2 := r1.length
      exact .inr ⟨a, n, vs, e1, ry, s1, by rintro rfl; exact hne (List.length_eq_zero_iff.mp hl2), b1, b2, by omega, fun p hp => k _ L _ _ q ⟨p, _, rfl, .inl (.inl upd_same), RepL.tk (HR.tk_new hp) _ _ (r1.rep _)⟩ (hr.laid hp).1 (hr.laid hp).2⟩
    | _ => exact False.elim q
  | _ => cases d <;> exact False.elim q
/-! ### str of an int -/
theorem strOk_ofString (s : String) : PyData.strOk (Str.ofString s) = true := by
  rw [Str.ofString_eq_toList]
  unfold PyData.strOk
  rw [Array.all_eq_true']
  intro c hc
  have hc : c ∈ (s.toList.map Char.toNat) := by simpa using hc
  obtain ⟨x, _, rfl⟩ := List.mem_map.mp hc
  have := x.valid
  have h : x.toNat < 0x110000 := by
    rcases this with h | ⟨_, h⟩
    · have : x.toNat < 0xd800 := h
      omega
    · exact h
  simpa using h
def dStrOf1 : D → DH → DK → Prop := fun d L Q => match d with
  | .int i => i.natAbs.log2 < 1920 ∧ Q (.str (Str.ofString (toString i))) L
  | _ => False
abbrev dStrOf : RDA := one dStrOf1
theorem cd_str {K : PySem.W.Frag} : CallD K (fun xs H Q => ∃ i : Int, xs = [.int i] ∧ i.natAbs.log2 < 1920 ∧ Q (.str (toString i)) H) dStrOf := cd_one fun H L d x Qd Q r hr q k => by
  cases d with
  | int i => cases (show x = _ from r); exact ⟨i, rfl, q.1, k _ L _ H q.2 ⟨rfl, strOk_ofString _⟩ hr .refl⟩
  | _ => exact False.elim q
end D2

set_option Elab.async false
set_option linter.all false
set_option maxRecDepth 100000
set_option maxHeartbeats 1000000
namespace D2
open PySem PySem.Spec PyProof.Rows L2
/-! ### the signs of a text -/
def signs (z : Str) : List D := z.cps.toList.map fun c => .str ⟨#[c]⟩
def dSgn (de : DE) : DI := fun s L Q E => de s L (fun d L1 => match d with
  | .str z => Q (signs z) (fun _ => True) L1
  | _ => False) E
theorem itOk_S {K : PySem.W.Frag} {z : Str} {ok : DH → Prop} {H0 : Hp} (hz : PyData.strOk z = true) : ItOk K (Its z) (signs z) ok H0 := fun i H L tk hr hok => by
  have hl : (signs z).length = z.cps.size := by simp [signs]
  refine ⟨fun e => by show z.cps.size ≤ i; omega, fun d e => ?_⟩
  have hi : i < z.cps.size := by
    have := (List.getElem?_eq_some_iff.mp e).1
    omega
  refine ⟨hi, fun x H' ⟨e3, c, hc, y⟩ => ?_⟩
  subst e3 y
  have e2 : d = .str ⟨#[c]⟩ := by
    unfold signs at e
    rw [List.getElem?_map] at e
    obtain ⟨c', h1, h2⟩ := Option.map_eq_some_iff.mp e
    have : c' = c := by
      rw [Array.getElem?_toList] at h1
      rw [hc] at h1
      exact (Option.some.inj h1).symm
    rw [← h2, this]
  subst e2
  refine ⟨⟨rfl, ?_⟩, hr, .refl, .refl _⟩
  unfold PyData.strOk at hz ⊢
  rw [Array.all_eq_true'] at *
  intro w hw
  have : w = c := by simpa using hw
  subst this
  exact hz w (Array.mem_of_getElem? hc)
theorem qi_sgn {X : Cx} {W : WX} {tg e : Expr} {de : DE} (h : QE X W e de) : QI X W tg e (dSgn de) :=
  ⟨PI_mono (pi_str h.pe) fun σ H R ⟨s, L, Qd, Ed, hs, hr, q, hq, lp⟩ => liftE_bind hs hr lp q fun d L1 x H1 q1 r1 hr1 k1 hs1 t1 lp1 => by
    cases d with
    | str z => exact ⟨z, r1.1, hq _ _ L1 H1 _ q1 hr1 k1 (itOk_S r1.2)⟩
    | _ => exact False.elim q1⟩
/-! ### a written tuple -/
theorem cst_tup {K : PySem.W.Frag} {mg : Str → Option Value} {h : Heap} {nm : Str} {A : Addr} {od : Option Addr} {its : Array Value} {n : Nat} {sl : Array (Option Value)} {xs : List V} {ds : List D} (X : K.In h) (G : h.Ns mainGlobals mg) (a : PySem.W.nsIn K mainGlobals nm = some (some (.ref A)))
    (l : K.lookup A = some ⟨.type "tuple", od, .seq its n, sl⟩) (hs : its.size ≤ sizeLine) (hv : Vals xs its.toList) (r : ∀ H, RepL K H ds xs) : ConstOk K mg nm (.tup ds) :=
  ⟨.ref A, _, PySem.W.mg_of X G a, rfl, fun H => ⟨A, xs, rfl, .inr ⟨_, its, n, l, rfl, rfl, hs, hv⟩, r H⟩⟩
theorem repL_cons {K : PySem.W.Frag} {H : Hp} {d : D} {ds : List D} {v : V} {vs : List V} (a : Rep K H d v) (b : RepL K H ds vs) : RepL K H (d :: ds) (v :: vs) := ⟨v, vs, rfl, a, b⟩
theorem repL_nil {K : PySem.W.Frag} {H : Hp} : RepL K H [] [] := rfl
/-! ### comprehensions that change nothing -/
theorem lcD_map {g : DG} {t : DT} {e : DE} {ok : DH → Prop} {s : DSt} {Q : List D → DH → Prop} (f : D → D) (L : DH) (hok : ok L) (ds : List D)
    (h : ∀ d, d ∈ ds → ∀ (Kt : D → DH → Prop), Kt (f d) L → ∀ Kf : DH → Prop, g d s L (fun s1 L1 => t s1 L1 (fun b L2 => if b = true then e s1 L2 Kt (fun _ _ _ => False) else Kf L2) (fun _ _ _ => False)) (fun _ _ _ => False))
    (acc : List D) (hl : acc.length + ds.length ≤ 16777216) (q : Q (acc ++ ds.map f) L) : lcD g t e ok s Q ds acc L :=
  lcD_pure (fun _ => true) f L hok ds (fun d hd Kt Kf h1 _ => h d hd Kt (h1 rfl) Kf) acc hl (by rw [List.filter_eq_self.mpr (fun _ _ => rfl)]; exact q)
theorem lc2D_map {g : DG} {t : DT} {di1 : DI} {g1 : DG} {t1 : DT} {e : DE} {vs1 : List Nat} {ok : DH → Prop} {s : DSt} {Q : List D → DH → Prop} (F : D → List D) (L : DH) (hok : ok L) : ∀ (ds : List D),
    (∀ d, d ∈ ds → ∀ (acc : List D) (Kt : List D → DH → Prop), (acc.length + (F d).length ≤ 16777216) → Kt (acc ++ F d) L → ∀ Kf : DH → Prop, g d s L (fun s1 L1 => t s1 L1 (fun b L2 => if b = true then di1 s1 L2 (fun ds1 ok1 L3 => lcD g1 t1 e ok1 (dwipe s1 vs1) Kt ds1 acc L3) (fun _ _ _ => False) else Kf L2) (fun _ _ _ => False)) (fun _ _ _ => False)) →
    ∀ acc, acc.length + (ds.flatMap F).length ≤ 16777216 → Q (acc ++ ds.flatMap F) L → lc2D g t di1 g1 t1 e vs1 ok s Q ds acc L
  | [], _, acc, _, q => ⟨hok, by simpa using q⟩
  | d :: ds, h, acc, hl, q => by
    refine ⟨hok, h d List.mem_cons_self acc _ (by simp at hl; omega) ?_ _⟩
    exact lc2D_map F L hok ds (fun d' hd => h d' (List.mem_cons_of_mem _ hd)) (acc ++ F d) (by simp at hl ⊢; omega) (by simpa [List.append_assoc] using q)
/-! ### data that can be compared -/
theorem pyL_succ {L : DH} : ∀ (n : Nat) (d : D) (p : PyData), pyL L n d = some p → pyL L (n + 1) d = some p := by
  have all : ∀ n, (∀ (d : D) (p : PyData), pyL L n d = some p → pyL L (n + 1) d = some p) → ∀ (ds : List D) (ps : List PyData), optAll (pyL L n) ds = some ps → optAll (pyL L (n + 1)) ds = some ps := by
    intro n ih ds
    induction ds with
    | nil => intro ps h; exact h
    | cons d ds ih2 =>
      intro ps h
      obtain ⟨y, ys, h1, h2, rfl⟩ := optAll_cons h
      rw [optAll_cons', ih d y h1, ih2 ys h2]; rfl
  intro n
  induction n with
  | zero =>
    intro d p h
    cases d with
    | tup ds => cases h
    | lro ds => cases h
    | ref a => cases h
    | exc _ _ _ _ _ => cases h
    | _ => simpa using h
  | succ n ih =>
    intro d p h
    cases d with
    | tup ds =>
      rw [pyL_tup] at h ⊢
      obtain ⟨ps, h1, rfl⟩ := Option.map_eq_some_iff.mp h
      rw [all n ih ds ps h1]; rfl
    | lro ds =>
      rw [pyL_lro] at h ⊢
      obtain ⟨ps, h1, rfl⟩ := Option.map_eq_some_iff.mp h
      rw [all n ih ds ps h1]; rfl
    | ref a =>
      cases e : L a with
      | none =>
        have : (match L a with | some (.lst ds) => (optAll (pyL L n) ds).map PyData.list | _ => none) = some p := h
        rw [e] at this; cases this
      | some o =>
        have this : (match L a with | some (.lst ds) => (optAll (pyL L n) ds).map PyData.list | _ => none) = some p := h
        cases o with
        | dct _ => rw [e] at this; cases this
        | dtp _ => rw [e] at this; cases this
        | obj _ _ => rw [e] at this; cases this
        | lst ds =>
        rw [pyL_ref n e] at h
        rw [pyL_ref (n + 1) e]
        obtain ⟨ps, h1, rfl⟩ := Option.map_eq_some_iff.mp h
        rw [all n ih ds ps h1]; rfl
    | exc _ _ _ _ _ => cases h
    | _ => simpa using h
theorem pyL_mono {L : DH} {n m : Nat} (h : n ≤ m) {d : D} {p : PyData} (e : pyL L n d = some p) : pyL L m d = some p := by
  induction m with
  | zero => cases Nat.le_zero.mp h; exact e
  | succ m ih =>
    rcases Nat.lt_or_ge n (m + 1) with g | g
    · exact pyL_succ m d p (ih (by omega))
    · have : n = m + 1 := by omega
      subst this; exact e
theorem pyL_le {L L' : DH} (l : Le L L') : ∀ (n : Nat) (d : D) (p : PyData), pyL L n d = some p → pyL L' n d = some p := by
  have all : ∀ n, (∀ (d : D) (p : PyData), pyL L n d = some p → pyL L' n d = some p) → ∀ (ds : List D) (ps : List PyData), optAll (pyL L n) ds = some ps → optAll (pyL L' n) ds = some ps := by
    intro n ih ds
    induction ds with
    | nil => intro ps h; exact h
    | cons d ds ih2 =>
      intro ps h
      obtain ⟨y, ys, h1, h2, rfl⟩ := optAll_cons h
      rw [optAll_cons', ih d y h1, ih2 ys h2]; rfl
  intro n
  induction n with
  | zero =>
    intro d p h
    cases d with
    | tup ds => cases h
    | lro ds => cases h
    | ref a => cases h
    | exc _ _ _ _ _ => cases h
    | _ => simpa using h
  | succ n ih =>
    intro d p h
    cases d with
    | tup ds =>
      rw [pyL_tup] at h ⊢
      obtain ⟨ps, h1, rfl⟩ := Option.map_eq_some_iff.mp h
      rw [all n ih ds ps h1]; rfl
    | lro ds =>
      rw [pyL_lro] at h ⊢
      obtain ⟨ps, h1, rfl⟩ := Option.map_eq_some_iff.mp h
      rw [all n ih ds ps h1]; rfl
    | ref a =>
      cases e : L a with
      | none =>
        have : (match L a with | some (.lst ds) => (optAll (pyL L n) ds).map PyData.list | _ => none) = some p := h
        rw [e] at this; cases this
      | some o =>
        have this : (match L a with | some (.lst ds) => (optAll (pyL L n) ds).map PyData.list | _ => none) = some p := h
        cases o with
        | dct _ => rw [e] at this; cases this
        | dtp _ => rw [e] at this; cases this
        | obj _ _ => rw [e] at this; cases this
        | lst ds =>
        rw [pyL_ref n e] at h
        rw [pyL_ref n (l a _ e)]
        obtain ⟨ps, h1, rfl⟩ := Option.map_eq_some_iff.mp h
        rw [all n ih ds ps h1]; rfl
    | exc _ _ _ _ _ => cases h
    | _ => simpa using h
/-- a thing as the program's tests may meet it: n tuples deep, texts not too long, lists that are known -/
def Tame (L : DH) : Nat → D → Prop
  | _, .str z => z.length ≤ 16777216
  | 0, .tup _ => False
  | n + 1, .tup ds => ds.length ≤ 16777216 ∧ ∀ d, d ∈ ds → Tame L n d
  | _, .ref a => ∃ p, pyL L 30 (.ref a) = some p
  | _, .lro _ => False
  | _, .exc _ _ _ _ _ => False
  | _, _ => True
theorem Tame.le {L L' : DH} (l : Le L L') : ∀ {n : Nat} {d : D}, Tame L n d → Tame L' n d := by
  intro n
  induction n with
  | zero =>
    intro d h
    cases d with
    | ref a => obtain ⟨p, e⟩ := h; exact ⟨p, pyL_le l _ _ _ e⟩
    | lro a => exact h.elim
    | exc _ _ _ _ _ => exact h.elim
    | tup _ => exact h.elim
    | str z => exact h
    | _ => trivial
  | succ n ih =>
    intro d h
    cases d with
    | ref a => obtain ⟨p, e⟩ := h; exact ⟨p, pyL_le l _ _ _ e⟩
    | lro a => exact h.elim
    | exc _ _ _ _ _ => exact h.elim
    | tup ds => exact ⟨h.1, fun d hd => ih (h.2 d hd)⟩
    | str z => exact h
    | _ => trivial
theorem Tame.py {L : DH} : ∀ {n : Nat} {d : D}, Tame L n d → ∃ p, pyL L (30 + n) d = some p := by
  intro n
  induction n with
  | zero =>
    intro d h
    cases d with
    | ref a => exact h
    | lro a => exact h.elim
    | exc _ _ _ _ _ => exact h.elim
    | tup _ => exact h.elim
    | str z => exact ⟨_, pyL_str _ _⟩
    | non => exact ⟨_, pyL_non _⟩
    | bl b => exact ⟨_, pyL_bl _ _⟩
    | int i => exact ⟨_, pyL_int _ _⟩
  | succ n ih =>
    intro d h
    cases d with
    | ref a => obtain ⟨p, e⟩ := h; exact ⟨p, pyL_mono (by omega) e⟩
    | lro a => exact h.elim
    | exc _ _ _ _ _ => exact h.elim
    | tup ds =>
      obtain ⟨_, h⟩ := h
      have : ∀ ds : List D, (∀ d, d ∈ ds → Tame L n d) → ∃ ps, optAll (pyL L (30 + n)) ds = some ps := by
        intro ds
        induction ds with
        | nil => exact fun _ => ⟨[], rfl⟩
        | cons d ds ih2 =>
          intro h
          obtain ⟨p, e⟩ := ih (h d List.mem_cons_self)
          obtain ⟨ps, e2⟩ := ih2 fun d' hd => h d' (List.mem_cons_of_mem _ hd)
          exact ⟨p :: ps, by rw [optAll_cons', e, e2]; rfl⟩
      obtain ⟨ps, e⟩ := this ds h
      exact ⟨_, by rw [show 30 + (n + 1) = (30 + n) + 1 from rfl, pyL_tup, e]; rfl⟩
    | str z => exact ⟨_, pyL_str _ _⟩
    | non => exact ⟨_, pyL_non _⟩
    | bl b => exact ⟨_, pyL_bl _ _⟩
    | int i => exact ⟨_, pyL_int _ _⟩
theorem Tame.py60 {L : DH} {n : Nat} {d : D} (h : Tame L n d) (hn : n ≤ 30) : ∃ p, pyL L 60 d = some p := by
  obtain ⟨p, e⟩ := h.py
  exact ⟨p, pyL_mono (by omega) e⟩
theorem Tame.known {L : DH} {n : Nat} {d : D} (h : Tame L n d) : Known L d := by
  cases d with
  | ref a =>
    have h : ∃ p, pyL L 30 (.ref a) = some p := by cases n <;> exact h
    obtain ⟨p, e⟩ := h
    cases q : L a with
    | none =>
      have : (match L a with | some (.lst ds) => (optAll (pyL L 29) ds).map PyData.list | _ => none) = some p := e
      rw [q] at this; cases this
    | some o =>
      have this : (match L a with | some (.lst ds) => (optAll (pyL L 29) ds).map PyData.list | _ => none) = some p := e
      cases o with
      | dct _ => rw [q] at this; cases this
      | dtp _ => rw [q] at this; cases this
      | obj _ _ => rw [q] at this; cases this
      | lst xs => exact ⟨xs, q⟩
  | exc _ _ _ _ _ => cases n <;> exact h
  | _ => trivial
theorem Tame.mem {L : DH} {n : Nat} {ds : List D} (h : Tame L (n + 1) (.tup ds)) {d : D} (hd : d ∈ ds) : Tame L n d := h.2 d hd
theorem Tame.up {L : DH} : ∀ {n : Nat} {d : D}, Tame L n d → Tame L (n + 1) d := by
  intro n
  induction n with
  | zero =>
    intro d h
    cases d with
    | tup _ => exact h.elim
    | _ => exact h
  | succ n ih =>
    intro d h
    cases d with
    | tup ds => exact ⟨h.1, fun d hd => ih (h.2 d hd)⟩
    | _ => exact h
def isStr (d : D) (z : Str) : Bool := match d with
  | .str x => x == z
  | _ => false
theorem eqD_tame {L : DH} {n : Nat} {d : D} (h : Tame L n d) (hn : n ≤ 30) (z : Str) : eqD L d (.str z) = some (isStr d z) := by
  obtain ⟨p, e⟩ := h.py60 hn
  rw [eqD_of e (pyL_str _ _)]
  cases d with
  | str x => rw [pyL_str] at e; cases e; rfl
  | non => rw [pyL_non] at e; cases e; rfl
  | bl b => rw [pyL_bl] at e; cases e; rfl
  | int i => rw [pyL_int] at e; cases e; rfl
  | tup ds =>
    rw [show (60 : Nat) = 59 + 1 from rfl, pyL_tup] at e
    obtain ⟨ps, _, rfl⟩ := Option.map_eq_some_iff.mp e
    rfl
  | lro ds => cases n <;> exact h.elim
  | exc _ _ _ _ _ => cases n <;> exact h.elim
  | ref a =>
    obtain ⟨xs, hx⟩ := h.known
    rw [show (60 : Nat) = 59 + 1 from rfl, pyL_ref 59 hx] at e
    obtain ⟨ps, _, rfl⟩ := Option.map_eq_some_iff.mp e
    rfl
end D2

set_option Elab.async false
set_option linter.all false
set_option maxRecDepth 100000
set_option maxHeartbeats 3200000
namespace D2
open PySem PySem.Spec PyProof.Rows L2
/-! ### the different ones of a row, in order -/
def memB {α : Type} [DecidableEq α] (l : List α) (x : α) : Bool := l.any fun y => decide (y = x)
theorem memB_iff {α : Type} [DecidableEq α] {l : List α} {x : α} : memB l x = true ↔ x ∈ l := by
  unfold memB
  rw [List.any_eq_true]
  constructor
  · rintro ⟨y, h1, h2⟩
    rw [← of_decide_eq_true h2]; exact h1
  · intro h
    exact ⟨x, h, decide_eq_true rfl⟩
theorem memB_no {α : Type} [DecidableEq α] {l : List α} {x : α} (h : ¬ memB l x = true) : x ∉ l := fun z => h (memB_iff.mpr z)
def ddA {α : Type} [DecidableEq α] (acc : List α) : List α → List α
  | [] => acc
  | x :: xs => if memB acc x = true then ddA acc xs else ddA (acc ++ [x]) xs
def dd {α : Type} [DecidableEq α] (xs : List α) : List α := ddA [] xs
section
variable {α : Type} [DecidableEq α]
theorem ddA_append (acc xs ys : List α) : ddA acc (xs ++ ys) = ddA (ddA acc xs) ys := by
  induction xs generalizing acc with
  | nil => rfl
  | cons x xs ih =>
    simp only [List.cons_append, ddA]
    split <;> exact ih _
theorem ddA_mem (acc xs : List α) (y : α) : y ∈ ddA acc xs ↔ y ∈ acc ∨ y ∈ xs := by
  induction xs generalizing acc with
  | nil => simp [ddA]
  | cons x xs ih =>
    simp only [ddA]
    split
    · rename_i h
      have h := memB_iff.mp h
      rw [ih]
      simp only [List.mem_cons]
      constructor
      · rintro (h1 | h1)
        · exact .inl h1
        · exact .inr (.inr h1)
      · rintro (h1 | h1 | h1)
        · exact .inl h1
        · subst h1; exact .inl h
        · exact .inr h1
    · rw [ih]
      simp only [List.mem_append, List.mem_cons, List.not_mem_nil, or_false]
      constructor
      · rintro ((h1 | h1) | h1)
        · exact .inl h1
        · exact .inr (.inl h1)
        · exact .inr (.inr h1)
      · rintro (h1 | h1 | h1)
        · exact .inl (.inl h1)
        · exact .inl (.inr h1)
        · exact .inr h1
theorem dd_mem (xs : List α) (y : α) : y ∈ dd xs ↔ y ∈ xs := by unfold dd; rw [ddA_mem]; simp
theorem ddA_len (acc xs : List α) : (ddA acc xs).length ≤ acc.length + xs.length := by
  induction xs generalizing acc with
  | nil => simp [ddA]
  | cons x xs ih =>
    simp only [ddA]
    split
    · have := ih acc; simp; omega
    · have := ih (acc ++ [x]); simp at this ⊢; omega
theorem dd_len (xs : List α) : (dd xs).length ≤ xs.length := by have := ddA_len [] xs; unfold dd; simpa using this
theorem ddA_eq (acc xs : List α) : (ddA acc xs).length = acc.length + xs.length ↔ xs.Nodup ∧ ∀ x, x ∈ xs → x ∉ acc := by
  induction xs generalizing acc with
  | nil => simp [ddA]
  | cons x xs ih =>
    simp only [ddA]
    split
    · rename_i h
      have h := memB_iff.mp h
      have := ddA_len acc xs
      constructor
      · intro e; simp at e; omega
      · rintro ⟨_, h2⟩; exact absurd h (h2 x List.mem_cons_self)
    · rename_i h
      have h := memB_no h
      have e1 : (ddA (acc ++ [x]) xs).length = acc.length + (x :: xs).length ↔ (ddA (acc ++ [x]) xs).length = (acc ++ [x]).length + xs.length := by simp; omega
      rw [e1, ih]
      simp only [List.nodup_cons, List.mem_cons, List.mem_append, List.not_mem_nil, or_false]
      constructor
      · rintro ⟨h1, h2⟩
        refine ⟨⟨fun hx => h2 x hx (.inr rfl), h1⟩, fun y hy => ?_⟩
        rcases hy with rfl | hy
        · exact h
        · exact fun z => h2 y hy (.inl z)
      · rintro ⟨⟨h1, h2⟩, h3⟩
        refine ⟨h2, fun y hy => ?_⟩
        rintro (z | z)
        · exact h3 y (.inr hy) z
        · subst z; exact h1 hy
theorem dd_eq (xs : List α) : (dd xs).length = xs.length ↔ xs.Nodup := by
  have := ddA_eq [] xs
  unfold dd
  simpa using this
theorem dd_snoc (xs : List α) (x : α) : dd (xs ++ [x]) = if memB (dd xs) x = true then dd xs else dd xs ++ [x] := by
  unfold dd; rw [ddA_append]; simp only [ddA]
end
theorem key_beq : ∀ (a b : Key), (a == b) = decide (a = b)
  | .inl i, .inl j => by
    show (i == j) = _
    rw [key_ll]
  | .inr i, .inr j => by
    show (i == j) = _
    rw [key_rr, Bool.eq_iff_iff]
    simp
  | .inl i, .inr j => by rw [key_lr]; rfl
  | .inr i, .inl j => by rw [key_rl]; rfl
instance keyLawful : LawfulBEq Key where
  eq_of_beq {a b} h := by rw [key_beq] at h; exact of_decide_eq_true h
  rfl {a} := by rw [key_beq]; exact decide_eq_true rfl
section
variable {prog : Program} {w : World} {A : Around} {R : Result → Shared → Prop} {I : Addr} {fp wr : List Addr} {G : Array GenState → Array GenState → Prop} {n : Nat} {P : Nat → Value → Prop} {Sx : Nat → Shared → Prop}
/-- the loop that puts key after key into the set at B -/
theorem keysLoop (W : WalksS prog w A.in1 I fp wr G n P Sx) (B : Addr) (nB : B ∉ fp) (ks : List Key) (lk : ks.length = n) (room : n + 1 < scanBound) (val : ∀ i v, P i v → ∃ k, ks[i]? = some k ∧ keyIs k v = true) :
    ∀ (d i : Nat) (s : Shared), n - i = d → i ≤ n → Sx i s → s.heap.SetOf (mixKind prog w) B (memB (dd (ks.take i))) (dd (ks.take i)).length →
      (∀ z, Moved (B :: wr) G s z → z.heap.SetOf (mixKind prog w) B (memB (dd (ks.take n))) (dd (ks.take n)).length → R (.ok (.ret .none)) z) → codeAny (model prog w) A (.builtin "set.update.loop" ⟨[.ref B, .ref I], []⟩) R s := by
  have nw : B ∉ wr := fun h => nB (W.sub _ h)
  have more : ∀ b ∈ wr, b ∈ B :: wr := fun b hb => List.mem_cons_of_mem _ hb
  intro d
  induction d with
  | zero =>
    intro i s hd hi st hS fin
    obtain rfl : i = n := by omega
    refine (codeAny_builtin PyProof.Rows.F.entry_set_update_loop ?_)
    rw [Around.under_plainId PyProof.Rows.F.plain_set_update_loop (_)]
    show wpAny (_) A.in1 (pyNext (.ref I) >>= _) _ _ s
    refine wpAny_bind (W.done s _ _ st fun z mv => ?_)
    show wpAny (_) A.in1 (ret Value.none) _ _ z
    refine wpAny_pure (fin z (mv.mono more) ?_)
    obtain ⟨o, es, ep, t, ho, r⟩ := hS
    exact ⟨o, es, ep, t, mv.heap B _ nw ho, r⟩
  | succ d ih =>
    intro i s hd hi st hS fin
    have lt : i < n := by omega
    refine (codeAny_builtin PyProof.Rows.F.entry_set_update_loop ?_)
    rw [Around.under_plainId PyProof.Rows.F.plain_set_update_loop (_)]
    show wpAny (_) A.in1 (pyNext (.ref I) >>= _) _ _ s
    refine wpAny_bind (W.item i s _ _ lt st fun v z pv st2 mv => ?_)
    obtain ⟨k, hk, kv⟩ := val i v pv
    have hz : z.heap.SetOf (mixKind prog w) B (memB (dd (ks.take i))) (dd (ks.take i)).length := by
      obtain ⟨o, es, ep, t, ho, r⟩ := hS
      exact ⟨o, es, ep, t, mv.heap B _ nw ho, r⟩
    have few : (dd (ks.take i)).length ≤ i := Nat.le_trans (dd_len _) (by rw [List.length_take]; exact Nat.min_le_left _ _)
    have ki : (mixKind prog w).is k v = true := kv
    show wpAny (_) A.in1 (holding [v] (setAdd B v) >>= _) _ _ z
    refine wpAny_bind (wpAny_holding ?_)
    unfold setAdd
    refine (wpAny_holding ?_)
    refine wpAny_bind ((mixKind prog w).pyHash ki ?_)
    refine wpAny_setAddHashed_of (knd := mixKind prog w) (s := { z with toks := z.toks + 1 }) ki (by rcases keyIs_shape kv with ⟨i, t, rfl, rfl⟩ | ⟨x, t, rfl, rfl⟩ <;> rfl) hz (by omega) fun h2 sb S2 => ?_
    have tk : ks.take (i + 1) = ks.take i ++ [k] := by rw [List.take_succ, hk]; rfl
    have S3 : h2.SetOf (mixKind prog w) B (memB (dd (ks.take (i + 1)))) (dd (ks.take (i + 1))).length := by
      refine SetOf_congr S2 (fun j => ?_) ?_
      · rw [tk, dd_snoc]
        by_cases m : memB (dd (ks.take i)) k = true
        · rw [if_pos m]
          by_cases e : j = k
          · subst e; rw [m]; rfl
          · rw [decide_eq_false e, Bool.or_false]
        · rw [if_neg m]
          unfold memB
          rw [List.any_append]
          simp [eq_comm]
      · rw [tk, dd_snoc]
        by_cases m : memB (dd (ks.take i)) k = true
        · rw [if_pos m, if_pos m]
        · rw [if_neg m, if_neg m, List.length_append]; rfl
    refine wpAny_pure ⟨plainId_quiet PyProof.Rows.F.plain_set_update_loop (_), ih (i + 1) _ (by omega) lt (W.frame _ z _ _ st2 (Nat.le_succ _) fun b hb o e => ?_) S3 fun y my hy => ?_⟩
    · rw [sb.2 b (fun h : b = B => nB (by rw [← h]; exact hb))]; exact e
    · refine fin y (Moved.trans W.gtrans ((mv.mono more).then_heap (Nat.le_succ _) fun b o hb e => ?_) my) hy
      rw [sb.2 b (fun h : b = B => hb (by rw [h]; exact List.mem_cons_self))]; exact e
end
section
variable {prog : Program} {w : World} {A : Around} {E : Value → Shared → Prop} {s : Shared}
/-- set(a list) -/
theorem set_of_list {l : Addr} {items : Array Value} {ks : List Key} {Q : Value → Shared → Prop} (hh : A.handled = none) (src : s.heap.IsList l items) (val : ∀ (i : Nat) (v : Value), items[i]? = some v → ∃ k, ks[i]? = some k ∧ keyIs k v = true) (lk : ks.length = items.size) (room : ks.length + 1 < scanBound)
    (h : ∀ (hp : Heap) (tk : Nat), hp.SetOf (mixKind prog w) s.heap.objs.size (memB (dd ks)) (dd ks).length → (∀ b o, b < s.heap.objs.size → s.heap.get? b = some o → hp.get? b = some o) → Q (.ref s.heap.objs.size) { s with heap := hp, toks := tk }) :
    wpAny (model prog w) A (call (.type "set") [.ref l]) Q E s := by
  obtain ⟨cc, tl, mro⟩ := PySem.F.called_set.mro
  have made := PySem.F.called_set.made
  have subc := PySem.F.called_set.sub
  refine (wpAny_call (codeAny_of_tree ?_))
  show wpAny (_) _ (callAny (.type "set") _) _ _ _
  refine (wpAny_pure ⟨Code.quiet_builtin _ (by decide +kernel), codeAny_builtin PySem.F.entry_type_call ?_⟩)
  rw [(Around.under_plain (weight_type_call_type "set" [.ref l] []) rfl)]
  have f1 := PySem.F.called_set.notType
  have f2 := PySem.F.called_set.canCreate
  have f3 := PySem.F.typeCall_set_1 (.ref l)
  repeat (any_goals (first | assumption | wp_step))
  refine codeAny_mono (code_set_new_1 (.ref l) (E := E) (Q₁ := fun ob z => ∃ fl : Bool, ob = .ref s.heap.objs.size ∧ z = { s with heap := s.heap.push { cls := .type "set", dict := none, data := .set #[] 0 (.fresh 0 0 fl) } }) fun fl => ⟨fl, rfl, rfl⟩) fun r z hr => ?_
  cases r with
  | error e => exact hr
  | ok flow =>
    cases flow with
    | ret ob =>
      obtain ⟨fl, rfl, rfl⟩ := hr
      have gS : (s.heap.push { cls := .type "set", dict := none, data := .set #[] 0 (.fresh 0 0 fl) }).get? s.heap.objs.size = some { cls := .type "set", dict := none, data := .set #[] 0 (.fresh 0 0 fl) } := Heap.get?_push_size _ rfl
      have tS : Shared.TypeIs { s with heap := s.heap.push { cls := .type "set", dict := none, data := .set #[] 0 (.fresh 0 0 fl) } } (.ref s.heap.objs.size) "set" := ⟨_, gS, rfl⟩
      have i1 := PySem.F.called_set.init.lookup
      have i2 := PySem.F.called_set.init.bind (.ref s.heap.objs.size)
      repeat (any_goals (first | assumption | wp_step))
      refine codeAny_mono (codeAny_call_builtin (R := wants (fun r z => r = .none ∧ ∃ hp tk, z = { s with heap := hp, toks := tk } ∧ hp.SetOf (mixKind prog w) s.heap.objs.size (memB (dd ks)) (dd ks).length ∧
          (∀ b o, b < s.heap.objs.size → s.heap.get? b = some o → hp.get? b = some o)) E) PySem.F.called_set.init.plain PySem.F.entry_set_init (check_set_init_1 tS ?_)) fun r z hr => ?_
      · obtain ⟨oz, hoz, hcl, nl, hdl⟩ := src
        obtain ⟨c0, d0, dt, sl⟩ := oz
        simp only at hcl hdl
        subst hcl; subst hdl
        have hoz2 : (s.heap.push { cls := .type "set", dict := none, data := .set #[] 0 (.fresh 0 0 fl) }).get? l = some { cls := .type "list", dict := d0, data := .seq items nl, slots := sl } := Heap.get?_push_of_some _ hoz
        have g1 := PySem.F.sub_list_set
        have g2 := PySem.F.sub_list_frozenset
        have g3 : (Value.type "list" == Value.type "dict") = false := by decide
        have sz1 : (s.heap.push { cls := .type "set", dict := none, data := .set #[] 0 (.fresh 0 0 fl) }).IsList l items := ⟨_, hoz2, rfl, nl, rfl⟩
        unfold Builtin.«set.__init__» noKeywords Builtin.Frozenset.updateFrom
        generalize hPI : pyIter = PI
        wp_walk
        subst hPI
        refine wpAny_pyIter_list sz1 ?_
        refine wpAny_bind (wpAny_runValue ?_)
        have lS : l < s.heap.objs.size := Heap.lt_size hoz
        have h3 : A.in1.in1.in1.handled = none := by simp [hh]
        have lne : l ≠ (s.heap.push { cls := .type "set", dict := none, data := .set #[] 0 (.fresh 0 0 fl) }).objs.size := by rw [Heap.size_push]; exact Nat.ne_of_lt (Nat.lt_succ_of_lt lS)
        have nf : s.heap.objs.size ∉ [(s.heap.push { cls := .type "set", dict := none, data := .set #[] 0 (.fresh 0 0 fl) }).objs.size, l] := by
          rw [Heap.size_push]; simp only [List.mem_cons, List.mem_singleton, List.not_mem_nil, or_false, not_or]
          exact ⟨Nat.ne_of_lt (Nat.lt_succ_self _), Nat.ne_of_gt lS⟩
        refine keysLoop ((Walks.list h3 _ l lne items).toS) s.heap.objs.size nf ks lk (by rw [← lk]; exact room) val (items.size - 0) 0 _ (by omega) (Nat.zero_le _) ⟨⟨_, Heap.get?_push_size _ rfl, rfl, rfl⟩, (sz1.push _)⟩ ?hS0 ?hR
        case hS0 =>
          have gg : ((s.heap.push { cls := .type "set", dict := none, data := .set #[] 0 (.fresh 0 0 fl) }).push { cls := .type "list_iterator", data := .fields #[.ref l, .int 0 0] }).get? s.heap.objs.size = some { cls := .type "set", dict := none, data := .set #[] 0 (.fresh 0 0 fl) } := Heap.get?_push_of_some _ gS
          exact PyProof.Rows.SetOf_congr ((PyProof.Rows.setObjOf_fresh (knd := mixKind prog w) fl).setOf gg (by unfold scanBound; omega)) (fun _ => rfl) rfl
        case hR =>
          intro z mv hz
          obtain ⟨hp, g', d', tk, os'⟩ := z
          have e1 : g' = s.gens := mv.gens
          have e2 : d' = s.drawn := mv.drawn
          have e3 : os' = s.os := mv.os
          subst e1; subst e2; subst e3
          show wpAny _ _ _ _ _ _
          refine wpAny_pure ?_
          show wpAny (_) _ (ret Value.none) _ _ _
          rw [← lk, List.take_length] at hz
          refine wpAny_pure ⟨rfl, hp, tk, rfl, hz, fun b o hb e => ?_⟩
          have b1 : b ≠ s.heap.objs.size := Nat.ne_of_lt hb
          have b2 : b ≠ (s.heap.push { cls := .type "set", dict := none, data := .set #[] 0 (.fresh 0 0 fl) }).objs.size := by rw [Heap.size_push]; exact Nat.ne_of_lt (Nat.lt_succ_of_lt hb)
          exact mv.heap b o (by simp only [List.mem_cons, List.mem_singleton, List.not_mem_nil, or_false, not_or]; exact ⟨b1, b2⟩) (Heap.get?_push_of_some _ (Heap.get?_push_of_some _ e))
      · cases r with
        | error e => exact hr
        | ok flow =>
          cases flow with
          | ret r =>
            obtain ⟨rfl, hp, tk, rfl, hz, kk⟩ := hr
            repeat (any_goals (first | assumption | wp_step))
            exact h _ _ hz kk
          | _ => exact hr.elim
    | _ => exact hr.elim
end
section
variable {prog : Program} {w : World} {A : Around} {E : Value → Shared → Prop} {s : Shared}
/-- set(a tuple) -/
theorem set_of_tuple {l : Addr} {items : Array Value} {ks : List Key} {Q : Value → Shared → Prop} (hh : A.handled = none) (src : s.heap.IsTuple l items) (val : ∀ (i : Nat) (v : Value), items[i]? = some v → ∃ k, ks[i]? = some k ∧ keyIs k v = true) (lk : ks.length = items.size) (room : ks.length + 1 < scanBound)
    (h : ∀ (hp : Heap) (tk : Nat), hp.SetOf (mixKind prog w) s.heap.objs.size (memB (dd ks)) (dd ks).length → (∀ b o, b < s.heap.objs.size → s.heap.get? b = some o → hp.get? b = some o) → Q (.ref s.heap.objs.size) { s with heap := hp, toks := tk }) :
    wpAny (model prog w) A (call (.type "set") [.ref l]) Q E s := by
  obtain ⟨cc, tl, mro⟩ := PySem.F.called_set.mro
  have made := PySem.F.called_set.made
  have subc := PySem.F.called_set.sub
  refine (wpAny_call (codeAny_of_tree ?_))
  show wpAny (_) _ (callAny (.type "set") _) _ _ _
  refine (wpAny_pure ⟨Code.quiet_builtin _ (by decide +kernel), codeAny_builtin PySem.F.entry_type_call ?_⟩)
  rw [(Around.under_plain (weight_type_call_type "set" [.ref l] []) rfl)]
  have f1 := PySem.F.called_set.notType
  have f2 := PySem.F.called_set.canCreate
  have f3 := PySem.F.typeCall_set_1 (.ref l)
  repeat (any_goals (first | assumption | wp_step))
  refine codeAny_mono (code_set_new_1 (.ref l) (E := E) (Q₁ := fun ob z => ∃ fl : Bool, ob = .ref s.heap.objs.size ∧ z = { s with heap := s.heap.push { cls := .type "set", dict := none, data := .set #[] 0 (.fresh 0 0 fl) } }) fun fl => ⟨fl, rfl, rfl⟩) fun r z hr => ?_
  cases r with
  | error e => exact hr
  | ok flow =>
    cases flow with
    | ret ob =>
      obtain ⟨fl, rfl, rfl⟩ := hr
      have gS : (s.heap.push { cls := .type "set", dict := none, data := .set #[] 0 (.fresh 0 0 fl) }).get? s.heap.objs.size = some { cls := .type "set", dict := none, data := .set #[] 0 (.fresh 0 0 fl) } := Heap.get?_push_size _ rfl
      have tS : Shared.TypeIs { s with heap := s.heap.push { cls := .type "set", dict := none, data := .set #[] 0 (.fresh 0 0 fl) } } (.ref s.heap.objs.size) "set" := ⟨_, gS, rfl⟩
      have i1 := PySem.F.called_set.init.lookup
      have i2 := PySem.F.called_set.init.bind (.ref s.heap.objs.size)
      repeat (any_goals (first | assumption | wp_step))
      refine codeAny_mono (codeAny_call_builtin (R := wants (fun r z => r = .none ∧ ∃ hp tk, z = { s with heap := hp, toks := tk } ∧ hp.SetOf (mixKind prog w) s.heap.objs.size (memB (dd ks)) (dd ks).length ∧
          (∀ b o, b < s.heap.objs.size → s.heap.get? b = some o → hp.get? b = some o)) E) PySem.F.called_set.init.plain PySem.F.entry_set_init (check_set_init_1 tS ?_)) fun r z hr => ?_
      · obtain ⟨oz, hoz, hcl, nl, hdl⟩ := src
        obtain ⟨c0, d0, dt, sl⟩ := oz
        simp only at hcl hdl
        subst hcl; subst hdl
        have hoz2 : (s.heap.push { cls := .type "set", dict := none, data := .set #[] 0 (.fresh 0 0 fl) }).get? l = some { cls := .type "tuple", dict := d0, data := .seq items nl, slots := sl } := Heap.get?_push_of_some _ hoz
        have g1 := PySem.F.sub_tuple_set
        have g2 := PySem.F.sub_tuple_frozenset
        have g3 : (Value.type "tuple" == Value.type "dict") = false := by decide
        have sz1 : (s.heap.push { cls := .type "set", dict := none, data := .set #[] 0 (.fresh 0 0 fl) }).IsTuple l items := ⟨_, hoz2, rfl, nl, rfl⟩
        unfold Builtin.«set.__init__» noKeywords Builtin.Frozenset.updateFrom
        generalize hPI : pyIter = PI
        wp_walk
        subst hPI
        refine wpAny_pyIter_tuple sz1 ?_
        refine wpAny_bind (wpAny_runValue ?_)
        have lS : l < s.heap.objs.size := Heap.lt_size hoz
        have h3 : A.in1.in1.in1.handled = none := by simp [hh]
        have lne : l ≠ (s.heap.push { cls := .type "set", dict := none, data := .set #[] 0 (.fresh 0 0 fl) }).objs.size := by rw [Heap.size_push]; exact Nat.ne_of_lt (Nat.lt_succ_of_lt lS)
        have nf : s.heap.objs.size ∉ [(s.heap.push { cls := .type "set", dict := none, data := .set #[] 0 (.fresh 0 0 fl) }).objs.size, l] := by
          rw [Heap.size_push]; simp only [List.mem_cons, List.mem_singleton, List.not_mem_nil, or_false, not_or]
          exact ⟨Nat.ne_of_lt (Nat.lt_succ_self _), Nat.ne_of_gt lS⟩
        refine keysLoop ((Walks.tuple h3 _ l lne items).toS) s.heap.objs.size nf ks lk (by rw [← lk]; exact room) val (items.size - 0) 0 _ (by omega) (Nat.zero_le _) ⟨⟨_, Heap.get?_push_size _ rfl, rfl, rfl⟩, (sz1.push _)⟩ ?hS0 ?hR
        case hS0 =>
          have gg : ((s.heap.push { cls := .type "set", dict := none, data := .set #[] 0 (.fresh 0 0 fl) }).push { cls := .type "tuple_iterator", data := .fields #[.ref l, .int 0 0] }).get? s.heap.objs.size = some { cls := .type "set", dict := none, data := .set #[] 0 (.fresh 0 0 fl) } := Heap.get?_push_of_some _ gS
          exact PyProof.Rows.SetOf_congr ((PyProof.Rows.setObjOf_fresh (knd := mixKind prog w) fl).setOf gg (by unfold scanBound; omega)) (fun _ => rfl) rfl
        case hR =>
          intro z mv hz
          obtain ⟨hp, g', d', tk, os'⟩ := z
          have e1 : g' = s.gens := mv.gens
          have e2 : d' = s.drawn := mv.drawn
          have e3 : os' = s.os := mv.os
          subst e1; subst e2; subst e3
          show wpAny _ _ _ _ _ _
          refine wpAny_pure ?_
          show wpAny (_) _ (ret Value.none) _ _ _
          rw [← lk, List.take_length] at hz
          refine wpAny_pure ⟨rfl, hp, tk, rfl, hz, fun b o hb e => ?_⟩
          have b1 : b ≠ s.heap.objs.size := Nat.ne_of_lt hb
          have b2 : b ≠ (s.heap.push { cls := .type "set", dict := none, data := .set #[] 0 (.fresh 0 0 fl) }).objs.size := by rw [Heap.size_push]; exact Nat.ne_of_lt (Nat.lt_succ_of_lt hb)
          exact mv.heap b o (by simp only [List.mem_cons, List.mem_singleton, List.not_mem_nil, or_false, not_or]; exact ⟨b1, b2⟩) (Heap.get?_push_of_some _ (Heap.get?_push_of_some _ e))
      · cases r with
        | error e => exact hr
        | ok flow =>
          cases flow with
          | ret r =>
            obtain ⟨rfl, hp, tk, rfl, hz, kk⟩ := hr
            repeat (any_goals (first | assumption | wp_step))
            exact h _ _ hz kk
          | _ => exact hr.elim
    | _ => exact hr.elim
end
/-! ### len(set(x)) -/
def keyD : D → Option Key
  | .int i => some (.inl i)
  | .str x => some (.inr x)
  | _ => none
def dLenSet (da : DE) : DE := fun s L Q E => da s L (fun d L1 => ∃ ds ks, itemsOf L1 d = some ds ∧ optAll keyD ds = some ks ∧ ks.length ≤ 4000 ∧ Q (.int (dd ks).length) L1) E
section
variable {K : PySem.W.Frag} {H : Hp}
theorem keys_of : ∀ {ds : List D} {ks : List Key} {vs : List V} {us : List Value}, optAll keyD ds = some ks → RepL K H ds vs → Vals vs us → ks.length = us.length ∧ ∀ (i : Nat) v, us[i]? = some v → ∃ k, ks[i]? = some k ∧ keyIs k v = true
  | [], _, _, _, e, r, rv => by
    cases e
    cases (show _ = [] from r)
    cases rv
    exact ⟨rfl, fun i v h => by simp at h⟩
  | d :: ds, _, _, _, e, ⟨v, vr, ev, rd, rr⟩, rv => by
    subst ev
    obtain ⟨k, kr, h1, h2, e2⟩ := optAll_cons e
    subst e2
    cases rv with
    | cons ru rt =>
      rename_i u ut
      obtain ⟨hl, hv⟩ := keys_of h2 rr rt
      refine ⟨by simp [hl], fun i x hx => ?_⟩
      cases i with
      | zero =>
        have ex : u = x := by simpa using hx
        subst ex
        refine ⟨k, rfl, ?_⟩
        cases d with
        | int j =>
          cases h1
          cases (show v = _ from rd)
          obtain ⟨t, rfl⟩ := ru
          exact keyIs_int j t
        | str j =>
          cases h1
          cases (show v = _ from rd.1)
          obtain ⟨t, rfl⟩ := ru
          exact keyIs_str j t
        | _ => cases h1
      | succ i => exact hv i x (by simpa using hx)
theorem itemsOf_rep {L : DH} (hr : HR K H L) {d : D} {ds : List D} {v : V} (e : itemsOf L d = some ds) (r : Rep K H d v) : ∃ a vs, v = .ref a ∧ (SqL K H a vs ∨ SqT K H a vs) ∧ RepL K H ds vs := by
  cases d with
  | tup xs => cases e; obtain ⟨a, vs, e1, s1, r1⟩ := r; exact ⟨a, vs, e1, .inr s1, r1⟩
  | lro xs => cases e; obtain ⟨a, vs, e1, s1, r1⟩ := r; exact ⟨a, vs, e1, .inl s1.sq, r1⟩
  | ref a =>
    have e : (match L a with | some (.lst xs) => some xs | _ => none) = some ds := e
    cases q : L a with
    | none => rw [q] at e; cases e
    | some o =>
      cases o with
      | dct _ => rw [q] at e; cases e
      | dtp _ => rw [q] at e; cases e
      | obj _ _ => rw [q] at e; cases e
      | lst xs =>
      rw [q] at e; cases e
      obtain ⟨vs, g1, r1⟩ := hr a _ q
      exact ⟨a, vs, r, .inl (SqL.of g1), r1⟩
  | _ => cases e
end
def tLenSet (K : PySem.W.Frag) (ta : TE) : TE := fun σ H Q => ta σ H (fun x H1 => ∃ b vs ds ks, x = .ref b ∧ (SqL K H1 b vs ∨ SqT K H1 b vs) ∧ RepL K H1 ds vs ∧ optAll keyD ds = some ks ∧ ks.length ≤ 4000 ∧ Q (.int (dd ks).length) H1)
theorem pe_lenSet {X : Cx} {a : Expr} {ta : TE} {p p2 q pos : Pos} (hm : X.mg "len" = none) (hm2 : X.mg "set" = none) (ha : PE X a ta) (hc : X.calm = true := by rfl) (hg : Gl X "len" := by rfl) (hg2 : Gl X "set" := by rfl)
    (na : starEach [a] X.env = (false, eval a X.env) :: starEach [] X.env := by rfl) : PE X (.Call (.Name "len" p) [.Call (.Name "set" p2) [a] [] q] [] pos) (tLenSet X.K ta) := by
  refine ⟨fun pins s σ H Q I h => ?_⟩
  refine Call_ (ld_blt I hg hm PySem.boot_len ?_)
  refine PyProof.Rows.callWith_builtin1 (PyProof.Rows.args_cons ?_ rfl) rfl rfl
  refine Call_ (ld_blt I hg2 hm2 PyProof.Rows.boot_set ?_)
  refine PyProof.Rows.callWith_type1 (PyProof.Rows.args_cons (thn (ha.run pins s σ H _ I h) fun v s1 ⟨x, H1, I1, r1, q1⟩ => PyProof.Rows.args_nil ?_) na) na rfl
  obtain ⟨b, vs, ds, ks, rfl, sq, rl, e2, e3, q1⟩ := q1
  cases r1
  have fin : ∀ (hp : Heap) (tk : Nat), hp.SetOf (mixKind X.prog X.w) s1.heap.objs.size (memB (dd ks)) (dd ks).length → (∀ b o, b < s1.heap.objs.size → s1.heap.get? b = some o → hp.get? b = some o) →
      wpAny (model X.prog X.w) X.A (call (.builtin "len") [.ref s1.heap.objs.size]) (EP X pins σ Q) X.xe { s1 with heap := hp, toks := tk } := fun hp tk hS hk => by
    obtain ⟨o, es, ep, t, ho, hex, hd, _, _, _, hf, hn⟩ := hS
    have I2 : Inv X pins σ H1 { s1 with heap := hp, toks := tk } := I1.kept fun b o e => hk b o (Heap.lt_size e) e
    have few := dd_len ks
    exact call_len_set ho hex hd hf (by rw [hn] <;> omega) ⟨.int (dd ks).length, H1, I2.tok _, ⟨_, by rw [hn]⟩, q1⟩
  have sc : ks.length + 1 < scanBound := by unfold scanBound; omega
  rcases sq with sq | sq
  · obtain ⟨its, rv, pl, hz⟩ := I1.list sq
    obtain ⟨hl, hv⟩ := keys_of e2 rl rv
    exact set_of_list (I1.ok.hd hc) pl.isList (fun i v hi => hv i v (by simpa using hi)) (by simpa using hl) sc fun hp tk hS hk => PyProof.Rows.args_nil (fin hp tk hS hk)
  · obtain ⟨its, rv, pl, hz⟩ := I1.tuple sq
    obtain ⟨hl, hv⟩ := keys_of e2 rl rv
    exact set_of_tuple (I1.ok.hd hc) (show s1.heap.IsTuple b its.toArray from pl) (fun i v hi => hv i v (by simpa using hi)) (by simpa using hl) sc fun hp tk hS hk => PyProof.Rows.args_nil (fin hp tk hS hk)
theorem q_lenSet {X : Cx} {W : WX} {a : Expr} {da : DE} {p p2 q pos : Pos} (hm : X.mg "len" = none) (hm2 : X.mg "set" = none) (ha : QE X W a da) (hc : X.calm = true := by rfl) (hg : Gl X "len" := by rfl) (hg2 : Gl X "set" := by rfl)
    (na : starEach [a] X.env = (false, eval a X.env) :: starEach [] X.env := by rfl) : QE X W (.Call (.Name "len" p) [.Call (.Name "set" p2) [a] [] q] [] pos) (dLenSet da) :=
  ⟨PE_mono (pe_lenSet hm hm2 ha.pe hc hg hg2 na) fun σ H Q ⟨s0, L, Qd, Ed, hs, hr, q0, hq, lp⟩ => liftE_bind hs hr lp q0 fun d L1 x H1 ⟨ds, ks, e1, e2, e3, q1⟩ r1 hr1 k1 _ _ _ =>
    let ⟨b, vs, e, sq, rl⟩ := itemsOf_rep hr1 e1 r1
    ⟨b, vs, ds, ks, e, sq, rl, e2, e3, hq _ L1 _ H1 q1 rfl hr1 k1⟩⟩
end D2

set_option Elab.async false
set_option linter.all false
set_option maxRecDepth 100000
set_option maxHeartbeats 1000000
/-! errors of one's own over ValueError, whose __init__ says super().__init__(text) and keeps one field -/
namespace D2
open PySem PySem.W PySem.Spec PySem.Calls PyProof.Rows L2

section
variable {prog : Program} {w : World} {A : Around} {E : Value → Shared → Prop} {h : Heap} {g : Array GenState} {d : Drawn} {t : Nat} {os : OsState}
theorem call_mw {nm q : Str} {C N : Addr} {bs bm : List Value} {hdct : Bool} {sn : List Str} {sub : List Value} {ab : Bool} {col : Option Bool} {dd : Option Addr} {k0 k1 k2 k3 k5 : Option Value} {u e t0 : Addr} {rest : List Value} {Q : Value → Shared → Prop}
    (hC : h.get? C = some (excClassObj nm q C N bs bm hdct sn sub ab col dd k0 k1 k2 k3 k5 "ValueError.__new__")) (he : h.get? e = some (excRec (.ref C) t0 none .none .none (.bool false))) (hu : h.get? u = some (kxs_mw "ValueError.__init__" e)) (hrest : rest.length ≤ sizeLine)
    (hq : ∀ h', (∀ b o, b ≠ e → h.get? b = some o → h'.get? b = some o) → h'.get? e = some (excRec (.ref C) h.objs.size none .none .none (.bool false)) → Q .none ⟨h', g, d, t, os⟩) :
    wpAny (model prog w) A (call (.ref u) rest) Q E ⟨h, g, d, t, os⟩ := by
  have FB := F.excBase_ValueError
  have mw1 : (Value.type "method-wrapper" == Value.type "method" || Value.type "method-wrapper" == Value.type "builtin_function_or_method" || Value.type "method-wrapper" == Value.type "method-wrapper") = true := by decide
  refine wpAny_call (codeAny_of_tree (show wpAny _ A.in1 (callAny (.ref u) ⟨rest, []⟩) _ _ _ from ?_))
  simp only [callAny]
  refine wpAny_bind (wpAny_load hu ?_)
  simp only [kxs_mw, mw1, if_true]
  refine KFB.if_so (by decide) (wpAny_bind (check_bound_init FB.toExcCallFacts hC he rfl (wpAny_bind (wpAny_pure (wpAny_pure ?_)))))
  exact ⟨plainId_quiet FB.init.plain _, codeAny_builtin FB.initEntry (exc_init_tree (cls := .ref C) (t0 := t0) (dv := none) (c2 := .none) (c3 := .none) (b4 := .bool false) he hrest fun h' a b _ => hq h' a b)⟩
end
/-- the written part's word of such an __init__ -/
structure IniC (P : Program) (K : Frag) (C : Addr) (f : Addr) (fd : FuncData) (par fld : Str) (body : List Stmt) : Prop where
  ex : ∃ (name qual : Str) (params : Arguments) (scope : Scope) (dV kV doc pm ct oc : Value) (an od cod ccd : Option Addr) (osl cosl ccsl : Array (Option Value)) (cda cc : Addr) (vs : Array Value) (file : Str) (tf : Tok) (ar : Arg) (ccl cl : Value),
    fd = fnX name qual params body scope [("__class__", cc)] dV kV doc pm an (.ref cda) ct ∧ K.lookup f = some ⟨oc, od, .func fd, osl⟩ ∧ codeIn K (.ref cda) qual = true ∧
    (params.posonlyargs ++ params.args).head? = some ar ∧ ar.arg = "self" ∧ K.lookup cda = some ⟨ccl, cod, .fields vs, cosl⟩ ∧ vs[2]? = some (.str file tf) ∧ ((P.main.file : Str) == file) = true ∧
    K.lookup cc = some ⟨cl, ccd, .cell (some (.ref C)), ccsl⟩ ∧ scope.names.lookup ("super" : Str) = some .globalImplicit ∧ scope.names.lookup ("__class__" : Str) = some .free ∧ scope.names.lookup ("self" : Str) = some .local ∧ scope.names.lookup par = some .local ∧
    scope.kind = .function ∧ scope.isCoroutine = false ∧ scope.isGenerator = false ∧ (∀ x ∈ scope.names, x.2 ≠ .cell)
  ne : par ≠ "self"
  top : (P.main.scope.names.lookup ("super" : Str)).isSome = false
  par_d : (par == ("__debug__" : Str)) = false
structure IniK (K : Frag) (mg : Str → Option Value) (C : Addr) (fld : Str) : Prop where
  T : OexC K C
  along : ∀ cd, clsIn K C = some cd → alongIn K "__init__" ((cd.mro.dropWhile (· != .ref C)).drop 1) = some (some (.builtin "ValueError.__init__"))
  sub : subIn K (.ref C) (.type "ValueError") = some true
  subC : mroIn K C (.ref C) = some true
  op : nsIn K cStatics "thirdparty.any" = some none
  sup : mg "super" = none
  no : findIn K (.ref C) fld = some none
  clsE : ∃ cd, clsIn K C = some cd
def iniBody (txt par fld : Str) (p0 p1 p2 p3 p4 p5 p6 p7 p8 pc : Pos) (j : Nat) : List Stmt :=
  [.Expr (.Call (.Attribute (.Call (.Name "super" p0) [] [] p1) "__init__" p2) [.Constant (.str txt) j pc] [] p3) p4, .Assign [.Attribute (.Name "self" p5) fld p6] (.Name par p7) p8]
def spIni (C : Addr) (fld : Str) : Sp := fun vs H Q _ => ∃ (a : Addr) (y : V), vs = [.ref a, y] ∧ H a = some (exo a C none) ∧ ∀ dx, H dx = none → dx ≠ a → Q .non (L2.upd (L2.upd H dx (exd dx [(fld, y)])) a (exo a C (some dx)))
theorem ini_ok {P : Program} {w : World} {K : Frag} {mg : Str → Option Value} {base : Heap} {CX : CXT} {k : Nat} {C f : Addr} {fd : FuncData} {par fld txt : Str} {p0 p1 p2 p3 p4 p5 p6 p7 p8 pc : Pos} {j : Nat}
    (I : IniC P K C f fd par fld (iniBody txt par fld p0 p1 p2 p3 p4 p5 p6 p7 p8 pc j)) (J : IniK K mg C fld) (hs1 : ∀ env, swapsWith (.Call (.Attribute (.Call (.Name "super" p0) [] [] p1) "__init__" p2) [.Constant (.str txt) j pc] [] p3) none p4.line env = pure false)
    (hs2 : ∀ env, swapsWith (.Name par p7) (some (.Attribute (.Name "self" p5) fld p6)) p8.line env = pure false)
    (hev : ∀ env, ∃ pl : Sem Bool, eval (.Call (.Attribute (.Call (.Name "super" p0) [] [] p1) "__init__" p2) [.Constant (.str txt) j pc] [] p3) env = (do
      let ov ← attributeBase (.Call (.Name "super" p0) [] [] p1) "__init__" env (eval (.Call (.Name "super" p0) [] [] p1) env)
      standAt p2.atName
      let (f, first) ← holding [ov] (getMethod ov "__init__" pl)
      callWith p3 f first (backTo p3 (starEach [.Constant (.str txt) j pc] env)) [])) : FnOk P w K mg base CX (k + 1) f fd ["self", par] (spIni C fld) := by
  obtain ⟨name, qual, params, scope, dV, kV, doc, pm, ct, oc, an, od, cod, ccd, osl, cosl, ccsl, cda, cc, vs, file, tf, ar, ccl, cl, rfl, lk, hcd, hp, har, hcode, hvs, hfile, hcell, ks, kc, kself, kpar, hk, hco, hgen, hnc⟩ := I.ex
  refine ⟨fun vs H Q E ⟨a, y, e, _⟩ => by subst e; rfl, fun A outer s H args us vs' Q E hr e0 hb r hsp => ?_⟩
  obtain ⟨a, y, rfl, ha, hq⟩ := hsp
  obtain ⟨hp0, g, d, t, os⟩ := s
  cases r with | @cons _ u0 _ ur ra r =>
  cases r with | @cons _ u1 _ ur ry r =>
  cases r
  obtain rfl : u0 = Value.ref a := ra
  have KX : K.In hp0 := e0.mod.kin.keeps fun b o e => (e0.bs b o e).1
  have lim : hp0.NoLimit := e0.mod.nolimit.keeps fun b o e => (e0.bs b o e).1
  have hloc : ∀ x ∈ [(("self" : Str), Value.ref a), (par, u1)], scope.names.lookup x.1 = some .local := by
    intro x hx
    simp only [List.mem_cons, List.not_mem_nil, or_false] at hx
    rcases hx with rfl | rfl
    · exact kself
    · exact kpar
  refine ks_codeAny_call_defAt (fd := fnX name qual params (iniBody txt par fld p0 p1 p2 p3 p4 p5 p6 p7 p8 pc j) scope [("__class__", cc)] dV kV doc pm an (.ref cda) ct) (body := iniBody txt par fld p0 p1 p2 p3 p4 p5 p6 p7 p8 pc j) (binds := [(("self" : Str), Value.ref a), (par, u1)]) hr.depth (KX _ _ lk) rfl lim (codeRec_of KX hcd) rfl hb hnc hloc (fun h1 hns hk1 => ?_) hco hgen hk
  have KX1 : K.In h1 := KX.keeps hk1
  obtain ⟨cd, hcd1⟩ := J.clsE
  obtain ⟨t1, hoa⟩ := exo_at e0.hok ha
  have hint : ∀ e : Env, e.scope = scope → interactive e = false := fun e he => by unfold interactive; rw [he, hk]; rfl
  unfold iniBody
  obtain ⟨pl, hpl⟩ := hev (callEnv (fnX name qual params (iniBody txt par fld p0 p1 p2 p3 p4 p5 p6 p7 p8 pc j) scope [("__class__", cc)] dV kV doc pm an (.ref cda) ct) hp0.objs.size f)
  refine ks_wpAt_execs_cons (ks_wpAt_Expr_any (ks_wpAt_MethodCall ?_ hpl) (hint _ rfl) (hs1 _))
  have mself : ([((("self" : Str)), Value.ref a), (par, u1)] : List (Str × Value)).reverse.lookup ("self" : Str) = some (Value.ref a) := by
    show ([(par, u1), (("self" : Str), Value.ref a)] : List (Str × Value)).lookup ("self" : Str) = _
    have e : (("self" : Str) == par) = false := by simpa using fun h => I.ne h.symm
    rw [List.lookup, e]
    simp [List.lookup]
  have mpar : ([((("self" : Str)), Value.ref a), (par, u1)] : List (Str × Value)).reverse.lookup par = some u1 := by
    show ([(par, u1), (("self" : Str), Value.ref a)] : List (Str × Value)).lookup par = _
    simp [List.lookup]
  obtain ⟨mb, hb1, hb2⟩ := e0.mod.blt
  have kb1 : ∀ b o, base.get? b = some o → h1.get? b = some o := fun b o e => hk1 b o (e0.bs b o e).1
  have hclD : ∃ oD, h1.get? C = some oD ∧ oD.data = .cls cd := by
    have hD := hcd1
    unfold clsIn at hD
    split at hD
    · rename_i c d cd' sl ho
      cases hD
      exact ⟨_, KX1 _ _ ho, rfl⟩
    · cases hD
  obtain ⟨oD, hD1, hD2⟩ := hclD
  have hsu : bootBuiltins "super" = some (.type "super") := by decide +kernel
  refine ks_wpAt_super_base (env := callEnv (fnX name qual params (iniBody txt par fld p0 p1 p2 p3 p4 p5 p6 p7 p8 pc j) scope [("__class__", cc)] dV kV doc pm an (.ref cda) ct) hp0.objs.size f) (f := f) (cc := cda) ks kc (by decide) rfl (KX1 _ _ lk) rfl hp rfl (KX1 _ _ hcode) rfl hvs hfile I.top ?_
  refine ks_loadName_global hk ks (loadGlobal_builtin (e0.mod.glob.keeps kb1) J.sup (hb1.keeps kb1) ((hb2 _ (by decide)).trans hsu) ⟨rfl, ?_⟩)
  refine wpAny_loadName_free hk kc rfl ⟨_, KX1 _ _ hcell, rfl⟩ ?_
  rw [har]
  refine wpAny_loadName_local hk kself hns mself ?_
  refine ks_wpAny_isType_cls hD1 hD2 ⟨rfl, ?_⟩
  refine ks_wpAny_call_super hD1 hD2 (hk1 _ _ hoa) rfl (fun c e => by cases e) (looks_mroIn KX1 J.subC) (fun h2 e2 k2 => ?_)
  have KX2 : K.In h2 := KX1.keeps k2
  have IA : InstAt h2 a { cls := .ref C, dict := none, data := .fields #[.ref t1, .none, .none, .none, .bool false, .none] } C none := ⟨k2 _ _ (hk1 _ _ hoa), rfl, rfl, trivial⟩
  refine kxs_getMethod kxs_ValueError e2 (looks_opaque KX2 J.op) (l₀ := cd.mro) (fun A Q E s k q => wpAny_bind ((looks_clsIn KX2 hcd1) A _ E s k (wpAny_pure q))) rfl KX2 (J.along cd hcd1) (IA.type.andThen (looks_subIn KX2 J.sub)) (ks_ne KX2 IA hcd1) (by decide) ?_
  have k3 : ∀ b o, h2.get? b = some o → (h2.push (kxs_mw "ValueError.__init__" a)).get? b = some o := fun b o e => Heap.get?_push_of_some _ e
  have hu3 : (h2.push (kxs_mw "ValueError.__init__" a)).get? h2.objs.size = some (kxs_mw "ValueError.__init__" a) := Heap.get?_push_at rfl rfl
  generalize h2.push (kxs_mw "ValueError.__init__" a) = h3 at k3 hu3
  refine kxs_callWith (i := "ValueError.__init__") (x := a) rfl ?_
  refine evalArgs_plain (Calls.spliced_cons (Calls.Constant_str (pos := pc) (k := j) (Calls.spliced_nil ⟨hu3, ?_⟩)))
  obtain ⟨nm, q, N, bs, bm, sn, sub, ab, col, dd, c0, c1, c2, c3, c5, hC, hbm⟩ := J.T.cls
  refine call_mw (t0 := t1) ((KX2.keeps k3) _ _ hC) (k3 _ _ (k2 _ _ (hk1 _ _ hoa))) hu3 (by show (1 : Nat) ≤ sizeLine; decide) fun h4 k4 e4 => ?_
  have KX4 : K.In h4 := fun b o e => by
    refine k4 b o ?_ (k3 _ _ (KX2 b o e))
    rintro rfl
    have := KX2 _ _ e
    rw [IA.at_] at this
    cases this
    exact absurd (e0.mod.kin _ _ e) (by
      intro z
      have y := (e0.bs _ _ z).2
      rw [ha] at y; cases y)
  have hLa : hp0.objs.size ≠ a := Nat.ne_of_gt (Heap.lt_size hoa)
  have hns4 : h4.Ns hp0.objs.size fun x => List.lookup x [(("self" : Str), Value.ref a), (par, u1)].reverse := hns.at fun o q => k4 _ _ hLa (k3 _ _ (k2 _ _ q))
  show PySem.wpAt _ _ _ (execs [.Assign [.Attribute (.Name "self" p5) fld p6] (.Name par p7) p8] _) _ _ _
  refine ks_wpAt_execs_cons (ks_wpAt_Assign_Attr (wpAt_of_wpAny ?_) (hs2 _))
  refine ldc hk kpar hns4 mpar ?_ I.par_d
  refine ldc hk kself hns4 mself ?_
  have hcl : clsIn K C = some { name := nm, bases := bs, mro := .ref C :: bm, ns := N, qualname := q, hasDict := true, slotNames := sn, subclasses := sub, abstract := ab, collection := col, hasDel := false } := by unfold clsIn; rw [hC] <;> rfl
  refine set_plain KX4 (ox := { cls := .ref C, dict := none, data := .fields #[.ref h3.objs.size, .none, .none, .none, .bool false, .none] }) (od := none) ⟨e4, rfl, rfl, trivial⟩ J.T.sa ?_
  refine PySem.HandSPX.exc_osa KX4 e4 hcl (show PySem.HandSPX.refsVE (.ref C :: bm) = true from hbm) rfl J.no (fun h5 tk' dx k dn dne hx hn => ?_)
  have kk : ∀ b o, b ≠ a → hp0.get? b = some o → h5.get? b = some o := fun b o n e => k b o n (k4 b o n (k3 _ _ (k2 _ _ (hk1 _ _ e))))
  have hsz : hp0.objs.size < dx := by
    obtain ⟨oL, es, ep, hL, _⟩ := hns4
    exact Nat.lt_of_lt_of_le (Heap.lt_size hL) dn
  have hnd : H dx = none := e0.hok.fresh (Nat.le_of_lt hsz)
  have nd : ∀ {b : Addr} {o : Obj}, hp0.get? b = some o → b ≠ dx := fun {b o} q => Nat.ne_of_lt (Nat.lt_trans (Heap.lt_size q) hsz)
  have na : ∀ {b : Addr}, H b = none → b ≠ a := fun {b} n z => by
    rw [z, ha] at n
    cases n
  have Un1 : Un (frs outer) [] H (L2.upd (L2.upd H dx (exd dx [(fld, y)])) a (exo a C (some dx))) hp0 h5 := {
    keep := fun b o q n _ _ => kk b o (na n) q
    slot := fun b o q n _ _ => ⟨o.slots, kk b o (na n) q⟩
    free := fun b o q n _ => by rw [upd_ne (na n), upd_ne (nd q)]; exact n
    there := fun b o q _ => by
      by_cases hb : b = a
      · exact ⟨_, by rw [hb]; exact hx⟩
      · exact ⟨o, kk b o hb q⟩
    tups := fun b xs q => by rw [upd_ne (at_ne ha q exo_tup), upd_ne (ne_of_none q hnd)]; exact q
    frzs := fun b o v q => by rw [upd_ne (at_ne ha q exo_frz), upd_ne (ne_of_none q hnd)]; exact q
    tbls := fun b ps q => ⟨#[], by rw [upd_ne (at_ne ha q exo_tbl), upd_ne (ne_of_none q hnd), q]; simp⟩ }
  refine wpAt_of_wpAny (wpAny_pure ⟨.non, _, rfl, e0.bare, Un1, fun b o q => ?_, rfl, hq dx hnd dne⟩)
  by_cases hb : b = a
  · subst hb
    rw [upd_same] at q
    cases q
    exact exo_ok hx
  · rw [upd_ne hb] at q
    by_cases hd : b = dx
    · subst hd
      rw [upd_same] at q
      cases q
      exact exd_ok hn (relO_put (fs := []) ry fun g => True.intro)
    · rw [upd_ne hd] at q
      exact (e0.hok b o q).stay (fun c v hc z => kk c v (by
          rcases hc with hc | hc
          · rw [hc]
            exact hb
          · exact at_ne ha hc exo_own) z)
        (fun c hc => by rw [upd_ne (at_ne ha hc exo_own), upd_ne (ne_of_none hc hnd)]; exact hc) (fun c xs hc => by rw [upd_ne (at_ne ha hc exo_tup), upd_ne (ne_of_none hc hnd)]; exact hc)
end D2

set_option Elab.async false
set_option linter.all false
set_option maxRecDepth 100000
set_option maxHeartbeats 1000000
/-! raising errors with a field; except clauses with and without names; the field of a caught error -/
namespace D2
open PySem PySem.Spec PyProof.Rows L2
/-! ### several clauses, each with a name or without -/
abbrev HdT := Value × Option Nat × (Addr → Value → Option Addr → TS)
/-- what is wished behind the suite: the name is gone -/
def goneE (D : Ends) : Option Nat → Ends
  | none => D
  | some i => { nx := fun σ H => D.nx (σ.set i none) H, rt := D.rt, bk := fun σ H => D.bk (σ.set i none) H, ct := fun σ H => D.ct (σ.set i none) H }
def withE (σ : L2.St) (a : Addr) : Option Nat → L2.St
  | none => σ
  | some i => σ.set i (some (.ref a))
def wN (K : PySem.W.Frag) (Wout : WX) (D : Ends) : List HdT → WX
  | [] => Wout
  | (c, o, ts) :: r => fun cls d σ H => ∃ b, PySem.W.exmOne K cls c = some b ∧ (b = true → ∀ a, H a = none → ts a cls d (goneE D o) (withE σ a o) H) ∧ (b = false → wN K Wout D r cls d σ H)
def SuiteOk (X : Cx) (suite : List Stmt) (ts : Addr → Value → Option Addr → TS) : Prop :=
  ∀ (a : Addr) (oe : Obj) (cls : Value) (d : Option Addr) (pn : List (Addr × Obj)), Zc cls d oe → (∃ vs, oe.data = .fields vs) → PSs (X.suite a ((a, oe) :: pn)) suite (ts a cls d)
inductive HdsN (X : Cx) : List ExceptHandler → List HdT → Prop
  | nil : HdsN X [] []
  | cons {x : Str} {c : Value} {ts : Addr → Value → Option Addr → TS} {b₀ : Stmt} {suite : List Stmt} {np pos' : Pos} {hds : List ExceptHandler} {l : List HdT} (hc : Names X x c) (hsu : SuiteOk X (b₀ :: suite) ts) (r : HdsN X hds l) :
      HdsN X (.ExceptHandler (some (.Name x np)) none (b₀ :: suite) pos' :: hds) ((c, none, ts) :: l)
  | consN {x n : Str} {i : Nat} {c : Value} {ts : Addr → Value → Option Addr → TS} {b₀ : Stmt} {suite : List Stmt} {np pos' : Pos} {hds : List ExceptHandler} {l : List HdT} (hc : Names X x c) (hi : X.N[i]? = some n) (hln : X.env.kindOf n = some .local) (hsu : SuiteOk X (b₀ :: suite) ts) (r : HdsN X hds l) :
      HdsN X (.ExceptHandler (some (.Name x np)) (some n) (b₀ :: suite) pos' :: hds) ((c, some i, ts) :: l)
section
variable {X : Cx} {body : List Stmt} {h₀ : ExceptHandler} {hds : List ExceptHandler} {l : List HdT} {pos : Pos} {tb : WX → TS} {Wout : WX}
theorem ps_try_n (hs : X.stack = X.env :: X.outer) (hf : X.env.frame = some X.env.locals) (hN : X.N.Nodup) (tk : Takes X Wout)
    (hb : ∀ (W : WX) (pn : List (Addr × Obj)) (xe : Value → Shared → Prop), Takes (X.tr pn xe) W → PassesOwn (model X.prog X.w) X.A X.env xe → PSs (X.tr pn xe) body (tb W))
    (hh : HdsN X (h₀ :: hds) l) : PS X (.Try body (h₀ :: hds) [] [] pos) (fun D σ H => tb (wN X.K Wout D l) D σ H) := by
  refine ⟨fun pins s σ H D I h => ?_⟩
  have ok := I.ok
  have frm : X.A.frames = some (X.env :: X.outer) := by rw [ok.frames, hs]
  let caught : Value → Shared → Prop := fun e s1 => wpAny (model X.prog X.w) X.A (noteFrame e X.env) (fun _ s2 => wpAny (model X.prog X.w) X.A (setFlight e none) (fun _ s3 =>
    wpAny (model X.prog X.w) X.A (handleBy e X.env (h₀ :: hds)) (SP X pins D) X.xe s3) X.xe s2) X.xe s1
  refine wpAny_Try_except (wpAny_mono ((hb (wN X.K Wout D l) (X.pn ++ pins) caught (fun u s' xx => ?_) PassesOwn.looking).run [] s σ H D (I.toTry _) h) (fun f s1 hsp => ?_) fun e s1 he => he)
  · obtain ⟨a, B, sI, pins', σ', H', cls, d, rfl, J', nb, up, sky, na, os, ag, w⟩ := xx
    have J : Inv X pins σ' H' sI := J'.ofTry ok
    show wpAny (model X.prog X.w) X.A (noteFrame (.ref a) X.env) _ _ _
    refine Sky.land Zc.steady frm hf (hs ▸ sky : Sky B (X.env :: X.outer) a (Zc cls d) X.env.locals s'.heap) fun h3 fl3 up3 => ?_
    have J3 : Inv X pins σ' H' { s' with heap := h3 } := J.landed nb fl3.1 (up.trans up3) os ag
    obtain ⟨oe3, vs3, he3, hz3, hd3⟩ := fl3.there
    have nfr : a ∉ frs (X.env :: X.outer) := fun hm => by
      obtain ⟨_, o', e', hnf⟩ := fl3.2.2.1.mem hm
      rw [he3] at e'
      cases e'
      exact hnf _ hd3
    have nL : a ≠ X.env.locals := fun z => nfr (List.mem_filterMap.mpr ⟨X.env, List.mem_cons_self, by rw [hf, z]⟩)
    have nF : a ∉ X.fs := fun hm => let ⟨e, he, q⟩ := List.mem_filterMap.mp hm; nfr (List.mem_filterMap.mpr ⟨e, List.mem_cons_of_mem _ he, q⟩)
    have S3 := J3.suite he3 hd3 na nL nF
    have LT : PySem.W.Looks (model X.prog X.w) h3 (typeOf (.ref a)) cls := fun A Q E s k q => wpAny_typeOf_ref (k _ _ he3) (by rw [hz3.1]; exact q)
    have named : ∀ {x : Str} {c : Value} {np : Pos} {Q : Value → Shared → Prop} {E : Value → Shared → Prop}, Names X x c → Q c { s' with heap := h3 } → wpAny (model X.prog X.w) (X.A.mark (some (.ref a))) (eval (.Name x np) X.env) Q E { s' with heap := h3 } := by
      intro x c np Q E hc q
      obtain ⟨hg, hdb, hm | ⟨hm, hv, hnn⟩⟩ := hc
      · exact ld_glob (X := X.suite a ((a, oe3) :: (X.pn ++ pins))) S3 hg hm q hdb
      · exact ld_blt (X := X.suite a ((a, oe3) :: (X.pn ++ pins))) S3 hg hm hv q hnn hdb
    have go : ∀ {hds' : List ExceptHandler} {l' : List HdT}, HdsN X hds' l' → wN X.K Wout D l' cls d σ' H' → wpAny (model X.prog X.w) X.A (handleBy (.ref a) X.env hds') (SP X pins D) X.xe { s' with heap := h3 } := by
      intro hds' l' hk
      induction hk with
      | nil =>
        intro w
        obtain ⟨_, _, _, oe, vs, T, oT, ts', he, hz, hd, h1, hr⟩ := id fl3
        have fin : wpAny (model X.prog X.w) X.A (setFlight (.ref a) X.env.frame) (fun _ s4 => wpAny (model X.prog X.w) X.A (throw (.ref a) : Sem Flow) (SP X pins D) X.xe s4) X.xe { s' with heap := h3 } := by
          rw [hf]
          exact HandSPX.setFlight_upZ fl3 fun h4 hh4 up4 => wpAny_throw (tk _ _ ⟨a, B, sI, pins, σ', H', cls, d, rfl, J, nb, (up.trans up3).trans up4, .inr (.inr (by rw [hs]; exact hh4)), na, os, ag, w⟩)
        refine wpAny_handleBy_nil ?_
        unfold PySem.passOn
        refine wpAny_bind (wpAny_field he hd h1 ?_)
        rw [if_neg (show ¬ ((Value.ref T == Value.none) = true) by simp)]
        first
          | exact wpAny_bind (wpAny_pure (wpAny_bind fin))
          | exact wpAny_bind fin
      | @cons x c ts b₀ suite np pos' hds2 l2 hc hsu r ih =>
        intro ⟨b, hb1, hyes, hno⟩
        refine wpAny_handleBy_cons (codeAny_handlers_test (named hc ((PySem.W.exm_one (M := model X.prog X.w) J3.kIn LT hb1).here ?_))) (by intro q; cases q)
        cases b with
        | false => exact ih (hno rfl)
        | true =>
          refine codeAny_handlers_suite (HandSPX.lands_againZ fl3 fun h4 fl4 up4 => ?_)
          have J4 : Inv X pins σ' H' { s' with heap := h4 } := J.landed nb fl4.1 ((up.trans up3).trans up4) os ag
          obtain ⟨oe4, vs4, he4, hz4, hd4⟩ := fl4.there
          refine wpAny_mono ((hsu a oe4 cls d (X.pn ++ pins) hz4 ⟨_, hd4⟩).run [] _ _ H' _ (J4.suite he4 hd4 na nL nF) (hyes rfl a na)) (fun f s6 hsp => ?_) fun _ _ z => z.elim
          cases f with
          | ret u => obtain ⟨v6, σ6, H6, S6, r6, q6⟩ := hsp; exact ⟨_, _, _, S6.unsuite ok, r6, q6⟩
          | next => obtain ⟨σ6, H6, S6, q6⟩ := hsp; exact ⟨_, _, S6.unsuite ok, q6⟩
          | brk => obtain ⟨σ6, H6, S6, q6⟩ := hsp; exact ⟨_, _, S6.unsuite ok, q6⟩
          | cont => obtain ⟨σ6, H6, S6, q6⟩ := hsp; exact ⟨_, _, S6.unsuite ok, q6⟩
      | @consN x n i c ts b₀ suite np pos' hds2 l2 hc hi hln hsu r ih =>
        intro ⟨b, hb1, hyes, hno⟩
        refine wpAny_handleBy_cons (codeAny_handlers_test (named hc ((PySem.W.exm_one (M := model X.prog X.w) J3.kIn LT hb1).here ?_))) (by intro q; cases q)
        cases b with
        | false => exact ih (hno rfl)
        | true =>
          refine codeAny_handlers_suite_as (HandSPX.lands_againZ fl3 fun h4 fl4 up4 => ?_)
          have J4 : Inv X pins σ' H' { s' with heap := h4 } := J.landed nb fl4.1 ((up.trans up3).trans up4) os ag
          obtain ⟨oe4, vs4, he4, hz4, hd4⟩ := fl4.there
          have S4 := J4.suite he4 hd4 na nL nF
          refine store_ok (X := X.suite a ((a, oe4) :: (X.pn ++ pins))) (v := .ref a) S4 hN hi (.inl hln) rfl (fun s5 S5 => ?_) (.inr hln)
          refine wpAny_mono ((hsu a oe4 cls d (X.pn ++ pins) hz4 ⟨_, hd4⟩).run [] s5 _ H' _ S5 (hyes rfl a na)) (fun f s6 hsp => ?_) fun _ _ z => z.elim
          have off : ∀ {σ6 : L2.St} {H6 : Hp} {Q : Shared → Prop}, Inv (X.suite a ((a, oe4) :: (X.pn ++ pins))) [] σ6 H6 s6 → (∀ s7, Inv X pins (σ6.set i none) H6 s7 → Q s7) →
              wpAny (model X.prog X.w) X.A (do bindName X.env n .none; unbindBehindTheSuite X.env n pos') (fun _ s7 => Q s7) X.xe s6 := fun S6 hq => gone_ok (S6.unsuite ok) hN hi hln hq
          cases f with
          | ret u => obtain ⟨v6, σ6, H6, S6, r6, q6⟩ := hsp; exact off S6 fun s7 J7 => ⟨_, _, _, J7, r6, q6⟩
          | next => obtain ⟨σ6, H6, S6, q6⟩ := hsp; exact off S6 fun s7 J7 => ⟨_, _, J7, q6⟩
          | brk => obtain ⟨σ6, H6, S6, q6⟩ := hsp; exact off S6 fun s7 J7 => ⟨_, _, J7, q6⟩
          | cont => obtain ⟨σ6, H6, S6, q6⟩ := hsp; exact off S6 fun s7 J7 => ⟨_, _, J7, q6⟩
    exact go hh w
  · cases f with
    | next => obtain ⟨σ', H', J', q⟩ := hsp; exact wpAny_execs_nil ⟨σ', H', J'.ofTry ok, q⟩
    | brk => obtain ⟨σ', H', J', q⟩ := hsp; exact ⟨σ', H', J'.ofTry ok, q⟩
    | cont => obtain ⟨σ', H', J', q⟩ := hsp; exact ⟨σ', H', J'.ofTry ok, q⟩
    | ret u => obtain ⟨v, σ', H', J', r, q⟩ := hsp; exact ⟨v, σ', H', J'.ofTry ok, r, q⟩
end
/-! ### the D layer's words -/
/-- a clause's slot, its suite: by the caught error's address, its dict, its class' name -/
abbrev HdD := Str × Option Nat × (Addr → Option Addr → Str → DS)
def goneD (dn : DEnds) : Option Nat → DEnds
  | none => { dn with ex := fun _ _ _ _ => False }
  | some i => { nx := fun s L => dn.nx (s.set i none) L, rt := dn.rt, bk := fun s L => dn.bk (s.set i none) L, ct := fun s L => dn.ct (s.set i none) L, ex := fun _ _ _ _ => False }
def withD (s : DSt) (a : Addr) (dd : Option Addr) (n : Str) (fs : List (Str × D)) : Option Nat → DSt
  | none => s
  | some i => s.set i (some (.exc a dd n (fs.map (·.1)) (fs.map (·.2))))
def exByN (sub : Str → Str → Option Bool) (dn : DEnds) : List HdD → Str → List (Str × D) → DSt → DH → Prop
  | [] => dn.ex
  | (c, o, h) :: r => fun n fs s L => ∃ b, sub n c = some b ∧ (b = true → ∀ a dd, h a dd n (goneD dn o) (withD s a dd n fs o) L) ∧ (b = false → exByN sub dn r n fs s L)
def sTryN (sub : Str → Str → Option Bool) (body : DS) (hs : List HdD) : DS := fun dn s L => body { dn with ex := exByN sub dn hs } s L
/-- the suite's reading, the class' name told -/
def liftH (M : KM) (h : Addr → Option Addr → Str → DS) : Addr → Value → Option Addr → TS := fun a cls d Dn σ H => ∃ n, M.mg n = some cls ∧ liftS M W0 (h a d n) Dn σ H
def SuiteQ (X : Cx) (suite : List Stmt) (h : Addr → Option Addr → Str → DS) : Prop :=
  ∀ (a : Addr) (oe : Obj) (cls : Value) (d : Option Addr) (n : Str) (pn : List (Addr × Obj)), Zc cls d oe → (∃ vs, oe.data = .fields vs) → X.mg n = some cls → QSs (X.suite a ((a, oe) :: pn)) W0 suite (h a d n)
theorem SuiteQ.ok {X : Cx} {suite : List Stmt} {h : Addr → Option Addr → Str → DS} (q : SuiteQ X suite h) : SuiteOk X suite (liftH X.km h) :=
  fun a oe cls d pn hz hf => ⟨fun pins s σ H D I ⟨n, hn, x⟩ => ((q a oe cls d n pn hz hf hn).ps).run pins s σ H D I x⟩
inductive QHdN (X : Cx) : List ExceptHandler → List HdD → List HdT → Prop
  | nil : QHdN X [] [] []
  | cons {x : Str} {c : Value} {h : Addr → Option Addr → Str → DS} {b₀ : Stmt} {suite : List Stmt} {np pos' : Pos} {hds : List ExceptHandler} {l : List HdD} {ll : List HdT} (hm : X.mg x = some c) (hsu : SuiteQ X (b₀ :: suite) h) (r : QHdN X hds l ll)
      (hg : Gl X x := by rfl) (hdb : (x == ("__debug__" : Str)) = false := by decide) : QHdN X (.ExceptHandler (some (.Name x np)) none (b₀ :: suite) pos' :: hds) ((x, none, h) :: l) ((c, none, liftH X.km h) :: ll)
  | consN (i : Nat) {x n : Str} {c : Value} {h : Addr → Option Addr → Str → DS} {b₀ : Stmt} {suite : List Stmt} {np pos' : Pos} {hds : List ExceptHandler} {l : List HdD} {ll : List HdT} (hm : X.mg x = some c) (hsu : SuiteQ X (b₀ :: suite) h) (r : QHdN X hds l ll)
      (hi : X.N[i]? = some n := by rfl) (hln : X.env.kindOf n = some .local := by rfl) (hg : Gl X x := by rfl) (hdb : (x == ("__debug__" : Str)) = false := by decide) : QHdN X (.ExceptHandler (some (.Name x np)) (some n) (b₀ :: suite) pos' :: hds) ((x, some i, h) :: l) ((c, some i, liftH X.km h) :: ll)
theorem QHdN.ok {X : Cx} {hds : List ExceptHandler} {l : List HdD} {ll : List HdT} (h : QHdN X hds l ll) : HdsN X hds ll := by
  induction h with
  | nil => exact .nil
  | cons hm hsu r hg hdb ih => exact .cons ⟨hg, hdb, .inl hm⟩ hsu.ok ih
  | consN i hm hsu r hi hln hg hdb ih => exact .consN ⟨hg, hdb, .inl hm⟩ hi hln hsu.ok ih
theorem frep_of {K : PySem.W.Frag} {H : Hp} : ∀ {fs : List (Str × D)} {vs : List (Str × V)}, FRep K H fs vs → ∃ us, vs = (fs.map (·.1)).zip us ∧ RepL K H (fs.map (·.2)) us
  | [], vs, h => ⟨[], by rw [show vs = [] from h]; rfl, rfl⟩
  | (f, d) :: fs, vs, ⟨v, r, e, rv, q⟩ => by
    obtain ⟨us, e2, r2⟩ := frep_of q
    exact ⟨v :: us, by rw [e, e2]; rfl, v, us, rfl, rv, r2⟩
theorem exc_rep {M : KM} {H : Hp} {n : Str} {fs : List (Str × D)} {cls : Value} {dx : Option Addr} (x : XRep M H n fs cls dx) (a : Addr) : Rep M.K H (.exc a dx n (fs.map (·.1)) (fs.map (·.2))) (.ref a) := by
  refine ⟨rfl, ?_⟩
  rcases x.2 with rfl | ⟨d, vs, e, hd, r⟩
  · exact ⟨[], rfl, .inl rfl⟩
  · obtain ⟨us, e2, r2⟩ := frep_of r
    exact ⟨us, r2, .inr ⟨d, e, by rw [hd, e2], by simp⟩⟩
section
variable {X : Cx} {W : WX} {pos : Pos}
theorem exByN_ok {sub : Str → Str → Option Bool} (so : SubOk X.K X.mg sub) {hds : List ExceptHandler} {l : List HdD} {ll : List HdT} (h : QHdN X hds l ll) {H : Hp} {L : DH} {dn : DEnds} {Dn : Ends} (p : Post X.km W H L dn Dn) :
    ∀ {n : Str} {fs : List (Str × D)} {cls : Value} {dx : Option Addr} {s : DSt} {L' : DH} {σ : L2.St} {H' : Hp}, exByN sub dn l n fs s L' → XRep X.km H' n fs cls dx → SR X.K H' s σ → HR X.K H' L' → Kp H L H' L' → wN X.K W Dn ll cls dx σ H' := by
  induction h with
  | nil => intro n fs cls dx s L' σ H' q x hs hr k; exact p.ex n fs cls dx s L' σ H' q x hs hr k
  | cons hm hsu r hg hdb ih =>
    intro n fs cls dx s L' σ H' ⟨b, e, q1, q2⟩ x hs hr k
    obtain ⟨vn, vc, g1, g2, g3⟩ := so _ _ _ e
    have e1 : vn = cls := Option.some.inj (g1.symm.trans x.1)
    have e2 := Option.some.inj (g2.symm.trans hm)
    subst e1 e2
    have p' := p.after k
    exact ⟨b, g3, fun hb a ha => ⟨n, g1, s, L', _, hs, hr, q1 hb a dx, p'.nx, p'.rt, p'.bk, p'.ct, fun _ _ _ _ _ _ _ _ z => z.elim⟩, fun hb => ih (q2 hb) x hs hr k⟩
  | consN i hm hsu r hi hln hg hdb ih =>
    intro n fs cls dx s L' σ H' ⟨b, e, q1, q2⟩ x hs hr k
    obtain ⟨vn, vc, g1, g2, g3⟩ := so _ _ _ e
    have e1 : vn = cls := Option.some.inj (g1.symm.trans x.1)
    have e2 := Option.some.inj (g2.symm.trans hm)
    subst e1 e2
    have p' := p.after k
    refine ⟨b, g3, fun hb a ha => ⟨n, g1, _, L', _, hs.set (exc_rep x a) i, hr, q1 hb a dx, ?_, p'.rt, ?_, ?_, fun _ _ _ _ _ _ _ _ z => z.elim⟩, fun hb => ih (q2 hb) x hs hr k⟩
    · exact fun s2 L2 σ2 H2 q s3 r3 k3 => p'.nx _ L2 _ H2 q (s3.none i none) r3 k3
    · exact fun s2 L2 σ2 H2 q s3 r3 k3 => p'.bk _ L2 _ H2 q (s3.none i none) r3 k3
    · exact fun s2 L2 σ2 H2 q s3 r3 k3 => p'.ct _ L2 _ H2 q (s3.none i none) r3 k3
theorem qs_tryN {body : List Stmt} {h₀ : ExceptHandler} {hds : List ExceptHandler} {db : DS} {l : List HdD} {ll : List HdT} {sub : Str → Str → Option Bool} (hN : X.N.Nodup) (hs : X.stack = X.env :: X.outer) (hf : X.env.frame = some X.env.locals) (tk : Takes X W) (so : SubOk X.K X.mg sub)
    (hb : ∀ (W : WX) (pn : List (Addr × Obj)) (xe : Value → Shared → Prop), Takes (X.tr pn xe) W → PassesOwn (model X.prog X.w) X.A X.env xe → QSs (X.tr pn xe) W body db) (hh : QHdN X (h₀ :: hds) l ll) : QS X W (.Try body (h₀ :: hds) [] [] pos) (sTryN sub db l) :=
  ⟨PS_mono (ps_try_n (tb := fun W => liftS X.km W db) hs hf hN tk (fun W pn xe t1 t2 => (hb W pn xe t1 t2).ps) hh.ok) fun Dn σ H ⟨s, L, dn, hs, hr, h, p⟩ =>
    ⟨s, L, _, hs, hr, h, p.nx, p.rt, p.bk, p.ct, fun C fs cls dx s' L' σ' H' a b c d e => exByN_ok so hh p a b c d e⟩⟩
/-- the field of a caught error -/
structure FldOk (K : PySem.W.Frag) (mg : Str → Option Value) (nm fld : Str) : Prop where
  ex : ∃ C, mg nm = some (.ref C) ∧ XfC K C ∧ PySem.W.findIn K (.ref C) fld = some none
def dXf (i : Nat) (a : Addr) (d : Option Addr) (n nm fld : Str) : DE := fun s L Q _ => n = nm ∧ ∃ fn fv v, s[i]? = some (some (.exc a d n fn fv)) ∧ (fn.zip fv).lookup fld = some v ∧ Q v L
theorem lookup_zip {K : PySem.W.Frag} {H : Hp} {fld : Str} {v : D} : ∀ {fn : List Str} {fv : List D} {vs : List V}, RepL K H fv vs → (fn.zip fv).lookup fld = some v → ∃ u, (fn.zip vs).lookup fld = some u ∧ Rep K H v u
  | [], _, _, _, h => by simp [List.lookup] at h
  | f :: fn, [], _, _, h => by simp [List.lookup] at h
  | f :: fn, d :: fv, _, ⟨u, r, e, ru, rr⟩, h => by
    subst e
    rw [List.zip_cons_cons, List.lookup] at h ⊢
    cases q : fld == f with
    | true => rw [q] at h; cases h; exact ⟨u, rfl, ru⟩
    | false => rw [q] at h; exact lookup_zip rr h
theorem q_xf (i : Nat) {x : Str} {a : Addr} {oe : Obj} {cls : Value} {d : Option Addr} {n nm fld : Str} {pn : List (Addr × Obj)} {p : Pos} (f : FldOk X.K X.mg nm fld) (hz : Zc cls d oe) (hf : ∃ vs, oe.data = .fields vs) (hm : X.mg n = some cls) (hN : X.N[i]? = some x := by rfl)
    (hv : Vis X.env.scope x := by first | exact Or.inl rfl | exact Or.inr (Or.inl rfl) | exact Or.inr (Or.inr rfl)) (hd : (x == ("__debug__" : Str)) = false := by decide) (hcd : (x == ("__classdict__" : Str)) = false := by decide)
    (hb : attributeBase (.Name x p) fld X.env (eval (.Name x p) X.env) = eval (.Name x p) X.env := by rfl) : QE (X.suite a ((a, oe) :: pn)) W (.Attribute (.Name x p) fld pos) (dXf i a d n nm fld) := by
  obtain ⟨C, h1, h2, h3⟩ := f.ex
  refine ⟨PE_mono (pe_xf h2 h3 hz hf (pe_var (X := X.suite a ((a, oe) :: pn)) hN hv hd hcd) hb) fun σ H Q ⟨s, L, Qd, Ed, hs, hr, ⟨e, fn, fv, v, hi, hl, q⟩, hq, lp⟩ => ?_⟩
  subst e
  obtain ⟨u, hu, ru, us, rl, hx⟩ := hs.2 i _ hi
  have ec : cls = .ref C := Option.some.inj (hm.symm.trans h1)
  rcases hx with rfl | ⟨dd, e1, e2, e3⟩
  · simp [List.lookup] at hl
  obtain ⟨w, hw, rw_⟩ := lookup_zip rl hl
  exact ⟨u, hu, ru, ec, dd, _, w, e1, e2, hw, hq v L w H q rw_ hr .refl⟩
/-! raising -/
structure ExfOk (P : Program) (w : World) (K : PySem.W.Frag) (mg : Str → Option Value) (base : Heap) (nm fld : Str) : Prop where
  ex : ∃ C fI fd par, mg nm = some (.ref C) ∧ OexC K C ∧ PySem.W.findIn K (.ref C) "__init__" = some (some (.ref fI)) ∧ PySem.W.typeIn K (.ref fI) = some (.type "function") ∧ FnOk P w K mg base CX0 1 fI fd ["self", par] (spIni C fld) ∧ Binds K fd ["self", par] []
def sRaiseF (nm fld : Str) (da : DE) : DS := fun dn s L => da s L (fun d L1 => dn.ex nm [(fld, d)] s L1) (xOf dn s)
theorem qs_raiseF {nm fld : Str} {a : Expr} {da : DE} {p pos2 : Pos} (hc : X.calm = true) (tk : Takes X W) (ok : ExfOk X.prog X.w X.K X.mg X.base nm fld) (hr : Room 2 X.A) (ha : QE X W a da) (hg : Gl X nm := by rfl) (hdb : (nm == ("__debug__" : Str)) = false := by decide)
    (he : starEach [a] X.env = (false, eval a X.env) :: starEach [] X.env := by rfl) : QS X W (.Raise (some (.Call (.Name nm p) [a] [] pos2)) none pos) (sRaiseF nm fld da) := by
  obtain ⟨C, fI, fd, par, h1, T, h2, h3, F, hb⟩ := ok.ex
  refine ⟨PS_mono (ps_raise hc tk (pmk_oex T h2 h3 F hr hb .nil pass0 hg h1 (qa_cons ha qa_nil he).pa hdb he)) fun Dn σ H ⟨s, L, dn, hs, hr, h, pp⟩ => ?_⟩
  refine liftA_bind (da := dCons da dNil) (Qd := fun ds L1 => match ds with | [d] => dn.ex nm [(fld, d)] s L1 | _ => False) hs hr (pp.lp hs hr) h fun ds L1 vs H1 q1 r1 hr1 k1 hs1 t1 lp1 => ?_
  match ds, q1, r1 with
  | [d], q1, r1 =>
    obtain ⟨y, rfl, ry⟩ := r1.one_inv
    refine ⟨by simp, fun b hb0 => ⟨b, y, rfl, upd_same, fun dx hd hne => ?_⟩⟩
    have hdx : H1 dx = none := by rwa [upd_ne hne] at hd
    refine ⟨rfl, dx, [(fld, y)], upd_same, by rw [upd_ne hne]; exact upd_same, hdx, ?_⟩
    have e : L2.upd (del (L2.upd (L2.upd (L2.upd H1 b (exo b C none)) dx (exd dx [(fld, y)])) b (exo b C (some dx))) b) dx (.xd [(fld, y)]) = L2.upd H1 dx (.xd [(fld, y)]) := by
      funext c
      by_cases h1 : c = dx
      · subst h1; rw [upd_same, upd_same]
      · rw [upd_ne h1, upd_ne h1]
        by_cases h2 : c = b
        · subst h2; rw [del_same, hb0]
        · rw [del_ne h2, upd_ne h2, upd_ne h1, upd_ne h2]
    rw [e]
    have t2 := HR.tk_new (o := .xd [(fld, y)]) hdx
    exact pp.ex nm [(fld, d)] _ _ s L1 σ _ q1 ⟨h1, .inr ⟨dx, [(fld, y)], rfl, upd_same, y, [], rfl, Rep.tk t2 _ _ ry, rfl⟩⟩ (hs1.tk t2) (hr1.laid hdx).1 (k1.trans (hr1.laid hdx).2)
end
end D2

set_option Elab.async false
set_option linter.all false
set_option maxRecDepth 100000
set_option maxHeartbeats 1000000
/-! from the written part's facts: an error class with one field -/
namespace D2
open PySem PySem.W PySem.Spec PyProof.Rows L2
def clsDef (s : Stmt) (j : Nat) : Stmt := match s with
  | .ClassDef _ _ _ b _ _ _ _ _ _ _ => b.getD j (.Pass ⟨0, 0, 0, 0⟩)
  | s => s
structure MethSc (m : Stmt) (par : Str) : Prop where
  sup : (defScope m).names.lookup ("super" : Str) = some .globalImplicit
  cls : (defScope m).names.lookup ("__class__" : Str) = some .free
  self : (defScope m).names.lookup ("self" : Str) = some .local
  parl : (defScope m).names.lookup par = some .local
  kind : (defScope m).kind = .function
  co : (defScope m).isCoroutine = false
  gen : (defScope m).isGenerator = false
  nocell : ∀ x ∈ (defScope m).names, x.2 ≠ .cell
  ne : par ≠ "self"
  nd : (par == ("__debug__" : Str)) = false
  arg : ∃ ar, ((defArgs m).posonlyargs ++ (defArgs m).args).head? = some ar ∧ ar.arg = "self"
structure MethBody (m : Stmt) (par fld : Str) : Prop where
  ex : ∃ (txt : Str) (p0 p1 p2 p3 p4 p5 p6 p7 p8 pc : Pos) (j : Nat), defBody m = iniBody txt par fld p0 p1 p2 p3 p4 p5 p6 p7 p8 pc j ∧
    (∀ env, swapsWith (.Call (.Attribute (.Call (.Name "super" p0) [] [] p1) "__init__" p2) [.Constant (.str txt) j pc] [] p3) none p4.line env = pure false) ∧
    (∀ env, swapsWith (.Name par p7) (some (.Attribute (.Name "self" p5) fld p6)) p8.line env = pure false) ∧
    (∀ env, ∃ pl : Sem Bool, eval (.Call (.Attribute (.Call (.Name "super" p0) [] [] p1) "__init__" p2) [.Constant (.str txt) j pc] [] p3) env = (do
      let ov ← attributeBase (.Call (.Name "super" p0) [] [] p1) "__init__" env (eval (.Call (.Name "super" p0) [] [] p1) env)
      standAt p2.atName
      let (f, first) ← holding [ov] (getMethod ov "__init__" pl)
      callWith p3 f first (backTo p3 (starEach [.Constant (.str txt) j pc] env)) []))
theorem exf_ok {P : Program} {w : World} {K : Frag} {mg : Str → Option Value} {base h : Heap} {nm fld par qual : Str} {m : Stmt} {C fI GA cc cda CN : Addr} {cn cq : Str} {cbs cbm : List Value} {csn : List Str} {csub : List Value} {cab : Bool} {ccol : Option Bool} {cdd gd od an cod ccd : Option Addr}
    {k0 k1 k2 k3 k5 : Option Value} {goc oc kV doc pm ct ccl cl : Value} {gcd : ClassData} {gsl osl cosl ccsl : Array (Option Value)} {vs : Array Value} {file : Str} {tf : Tok} (X : K.In h) (G : h.Ns mainGlobals mg) (S : MethSc m par) (B : MethBody m par fld)
    (bd : ∀ (kV doc pm : Value) (an : Option Addr) (cdv ct : Value) (cc : Addr) (us : List Value), us.length = 2 → bindArgs (fnX "__init__" qual (defArgs m) (defBody m) (defScope m) [("__class__", cc)] .none kV doc pm an cdv ct) ⟨us, []⟩ = pure ([("self" : Str), par].zip us))
    (top : (P.main.scope.names.lookup ("super" : Str)).isSome = false)
    (aC : nsIn K mainGlobals nm = some (some (.ref C))) (lC : K.lookup C = some (excClassObj cn cq C CN cbs cbm true csn csub cab ccol cdd k0 k1 k2 k3 k5 "ValueError.__new__")) (vb : PySem.HandSPX.refsVE cbm = true)
    (sC : findIn K (.ref C) "__setattr__" = some (some (.builtin "object.__setattr__"))) (bC : subIn K (.ref C) (.type "BaseException") = some true) (tC : typeIn K (.ref C) = some (.type "type")) (kC : keepIn K (.ref C) = true)
    (iC : findIn K (.ref C) "__init__" = some (some (.ref fI))) (tI : typeIn K (.ref fI) = some (.type "function"))
    (lI : K.lookup fI = some ⟨oc, od, .func (fnX "__init__" qual (defArgs m) (defBody m) (defScope m) [("__class__", cc)] .none kV doc pm an (.ref cda) ct), osl⟩) (cI : codeIn K (.ref cda) qual = true)
    (lX : K.lookup cc = some ⟨cl, ccd, .cell (some (.ref C)), ccsl⟩) (lD : K.lookup cda = some ⟨ccl, cod, .fields vs, cosl⟩) (v2 : vs[2]? = some (.str file tf)) (fl : ((P.main.file : Str) == file) = true)
    (hG : cbm.head? = some (.ref GA)) (lG : K.lookup GA = some ⟨goc, gd, .cls gcd, gsl⟩) (eG : cbm = gcd.mro) (iG : findIn K (.ref GA) "__init__" = some (some (.builtin "ValueError.__init__")))
    (vC : subIn K (.ref C) (.type "ValueError") = some true) (mC : mroIn K C (.ref C) = some true) (op : nsIn K cStatics "thirdparty.any" = some none) (su : nsIn K mainGlobals "super" = some none) (no : findIn K (.ref C) fld = some none)
    (gC : findIn K (.ref C) "__getattribute__" = some (some (.builtin "BaseException.__getattribute__"))) (hC : findIn K (.ref C) "__getattr__" = some none) (dC : hasDictIn K C = true) : ExfOk P w K mg base nm fld ∧ FldOk K mg nm fld := by
  have T : OexC K C := ⟨⟨_, _, _, _, _, _, _, _, _, _, _, _, _, _, _, lC, vb⟩, sC, bC, tC, kC⟩
  have cls1 : clsIn K C = some { name := cn, bases := cbs, mro := .ref C :: cbm, ns := CN, qualname := cq, hasDict := true, slotNames := csn, subclasses := csub, abstract := cab, collection := ccol, hasDel := false } := by unfold clsIn; rw [lC] <;> rfl
  have al : ∀ cd, clsIn K C = some cd → alongIn K "__init__" ((cd.mro.dropWhile (· != .ref C)).drop 1) = some (some (.builtin "ValueError.__init__")) := by
    intro cd hcd
    rw [cls1] at hcd
    cases hcd
    have e : (((Value.ref C :: cbm).dropWhile (· != .ref C)).drop 1) = cbm := by simp [List.dropWhile_cons]
    show alongIn K "__init__" (((Value.ref C :: cbm).dropWhile (· != .ref C)).drop 1) = _
    rw [e, eG]
    have iG : (match K.lookup GA with | some ⟨_, _, .cls cd, _⟩ => alongIn K "__init__" cd.mro | _ => none) = some (some (.builtin "ValueError.__init__")) := iG
    rw [lG] at iG
    exact iG
  obtain ⟨txt, p0, p1, p2, p3, p4, p5, p6, p7, p8, pc, j, hb, h1, h2, h3⟩ := B.ex
  obtain ⟨ar, har1, har2⟩ := S.arg
  have I : IniC P K C fI (fnX "__init__" qual (defArgs m) (defBody m) (defScope m) [("__class__", cc)] .none kV doc pm an (.ref cda) ct) par fld (iniBody txt par fld p0 p1 p2 p3 p4 p5 p6 p7 p8 pc j) :=
    ⟨⟨"__init__", qual, defArgs m, defScope m, .none, kV, doc, pm, ct, oc, an, od, cod, ccd, osl, cosl, ccsl, cda, cc, vs, file, tf, ar, ccl, cl, by rw [hb], lI, cI, har1, har2, lD, v2, fl, lX, S.sup, S.cls, S.self, S.parl, S.kind, S.co, S.gen, S.nocell⟩, S.ne, top, S.nd⟩
  have J : IniK K mg C fld := ⟨T, al, vC, mC, op, mg_none_of X G su, no, ⟨_, cls1⟩⟩
  have F := ini_ok (w := w) (base := base) (CX := CX0) (k := 0) I J h1 h2 h3
  exact ⟨⟨C, fI, _, par, mg_of X G aC, T, iC, tI, F, .all fun us hl => bd _ _ _ _ _ _ _ us hl⟩, ⟨C, mg_of X G aC, ⟨gC, hC, bC, dC⟩, no⟩⟩
end D2

set_option Elab.async false
set_option linter.all false
set_option maxRecDepth 100000
set_option maxHeartbeats 1000000
/-! lists that are made and used at once: by their items, with no address told -/
namespace D2
open PySem PySem.Spec PyProof.Rows L2
def liftL (M : KM) (W : WX) (dl : DA) : TE := fun σ H Q => ∃ s L Qd Ed, SR M.K H s σ ∧ HR M.K H L ∧ dl s L Qd Ed ∧
  (∀ ds L' vs a H', Qd ds L' → H' a = some (.lst vs) → RepL M.K H' ds vs → L' a = none → HR M.K H' L' → Kp H L H' (upd L' a (.lst ds)) → Q (.ref a) H') ∧ LP M W σ H L Ed
structure QL (X : Cx) (W : WX) (e : Expr) (dl : DA) : Prop where
  pe : PE X e (liftL X.km W dl)
section
variable {M : KM} {W : WX} {σ : L2.St} {H : Hp}
theorem liftL_bind {dl : DA} {s : DSt} {L : DH} {Qd : List D → DH → Prop} {Ed : XD} {R : VK} (hs : SR M.K H s σ) (hr : HR M.K H L) (lp : LP M W σ H L Ed) (h : dl s L Qd Ed)
    (hk : ∀ ds L1 vs a H1, Qd ds L1 → H1 a = some (.lst vs) → RepL M.K H1 ds vs → L1 a = none → HR M.K H1 L1 → Kp H L H1 L1 → Kp H L H1 (upd L1 a (.lst ds)) → SR M.K H1 s σ → TK H H1 → LP M W σ H1 L1 Ed → R (.ref a) H1) : liftL M W dl σ H R :=
  ⟨s, L, Qd, Ed, hs, hr, h, fun ds L1 vs a H1 q ha rl n hr1 k => by
    have k1 : Kp H L H1 L1 := k.le (Le.upd n)
    exact hk ds L1 vs a H1 q ha rl n hr1 k1 k (hs.tk (k1.tk hr)) (k1.tk hr) (lp.after k1), lp⟩
theorem HR.put {K : PySem.W.Frag} {H : Hp} {L : DH} (r : HR K H L) {a : Addr} {ds : List D} {vs : List V} (h : H a = some (.lst vs)) (q : RepL K H ds vs) : HR K H (upd L a (.lst ds)) := fun b o e => by
  by_cases hb : b = a
  · subst hb; rw [updD_same] at e; cases e; exact ⟨vs, h, q⟩
  · rw [updD_ne hb] at e; exact r b o e
end
/-! making -/
def dLstL (t : DA) : DA := fun s L Q E => t s L (fun ds L1 => ds.length ≤ 16777216 ∧ Q ds L1) E
def keepQ (Q : List D → DH → Prop) : DK := fun d L' => ∃ p ds L2, d = .ref p ∧ L' p = some (.lst ds) ∧ Le L2 L' ∧ L2 p = none ∧ Q ds L2
theorem keep_new {Q : List D → DH → Prop} {acc : List D} {L : DH} {p : Addr} (q : Q acc L) (hp : L p = none) : keepQ Q (.ref p) (upd L p (.lst acc)) := ⟨p, acc, L, rfl, updD_same, Le.upd hp, hp, q⟩
def dOfE (de : DE) : DA := fun s L Q E => de s L (keepQ Q) E
section
variable {X : Cx} {W : WX} {pos : Pos} {e b : Expr} {dl dl2 : DA} {db : DE}
theorem ql_lst {es : List Expr} {t : DA} (h : QA X W es t) : QL X W (.List es pos) (dLstL t) :=
  ⟨PE_mono (pe_lst h.pa) fun σ H Q ⟨s, L, Qd, Ed, hs, hr, q, hq, lp⟩ => liftA_bind hs hr lp q fun ds L1 vs H1 ⟨ql, q1⟩ r1 hr1 k1 hs1 t1 lp1 =>
    ⟨by rw [← r1.length]; exact line_of ql, fun p hp => hq ds L1 vs p _ q1 upd_same (RepL.tk (HR.tk_new hp) _ _ r1) (hr1.free hp) (hr1.laid hp).1 (k1.trans (hr1.new hp r1).2)⟩⟩
theorem ql_of {de : DE} (h : QE X W e de) : QL X W e (dOfE de) :=
  ⟨PE_mono h.pe fun σ H Q ⟨s, L, Qd, Ed, hs, hr, q, hq, lp⟩ => ⟨s, L, keepQ Qd, Ed, hs, hr, q, fun d L' v H' ⟨p, ds, L2, e1, hp, le, n, q2⟩ r hr' k => by
    subst e1
    cases (show v = _ from r)
    obtain ⟨vs, h1, rl⟩ := hr' p _ hp
    refine hq ds L2 vs p H' q2 h1 rl n (hr'.le le) (k.le fun b o eb => ?_)
    by_cases hb : b = p
    · subst hb; rw [updD_same] at eb; cases eb; exact hp
    · rw [updD_ne hb] at eb; exact le b o eb, lp⟩⟩
/-- a list as a thing of its own -/
def dRefL (dl : DA) : DE := fun s L Q E => dl s L (fun ds L1 => ∀ p, L1 p = none → Q (.ref p) (upd L1 p (.lst ds))) E
theorem q_ofL (h : QL X W e dl) : QE X W e (dRefL dl) :=
  ⟨PE_mono h.pe fun σ H Q ⟨s, L, Qd, Ed, hs, hr, q, hq, lp⟩ => liftL_bind hs hr lp q fun ds L1 vs a H1 q1 ha rl n hr1 k1 k hs1 t1 lp1 => hq _ _ _ H1 (q1 a n) rfl (hr1.put ha rl) k⟩
/-! using -/
def dIxL (dl : DA) (db : DE) : DE := fun s L Q E => dl s L (fun ds L1 => db s L1 (fun y L2 => match y with | .int i => ∃ d, atI ds i = some d ∧ Q d L2 | _ => False) E) E
theorem q_ixL (hl : QL X W e dl) (hb : QE X W b db) (hs : PlainIx b) : QE X W (.Subscript e b pos) (dIxL dl db) := by
  refine ⟨PE_mono (pe_ix ix_seq hl.pe hb.pe hs) fun σ H Q ⟨s, L, Qd, Ed, hs, hr, q, hq, lp⟩ => ?_⟩
  refine liftL_bind hs hr lp q fun ds L1 vs a H1 q1 ha rl n hr1 k1 k hs1 t1 lp1 => ?_
  refine liftE_bind hs1 hr1 lp1 q1 fun y L2 v H2 q2 r2 hr2 k2 hs2 t2 lp2 => ?_
  cases y with
  | int i =>
    obtain ⟨d, e1, q3⟩ := q2
    obtain ⟨u, e2, ru⟩ := RepL.atI (RepL.tk t2 _ _ rl) e1
    exact .inl ⟨a, vs, i, u, rfl, r2, SqL.of (k2 a _ ha n).1, e2, hq d L2 u H2 q3 ru hr2 (k1.trans k2)⟩
  | _ => exact False.elim q2
/-- one such list as the argument of a built-in function -/
abbrev RDL := List D → DH → DK → Prop
def dCon (F : RDL) (dl : DA) : DE := fun s L Q E => dl s L (fun ds L1 => F ds L1 Q) E
def ConOk (rD : RDA) (F : RDL) : Prop := ∀ (a : Addr) (ds : List D) (L : DH) (Q : DK), L a = none → F ds L Q → rD [.ref a] (upd L a (.lst ds)) (fun d L' => ∃ L2, Le L2 L' ∧ Q d L2)
theorem lift_con {M : KM} {r : List V → Hp → VK → Prop} {rD : RDA} {F : RDL} (h : CallD M.K r rD) (hF : ConOk rD F) {σ : L2.St} {H : Hp} {Q : VK} (q : liftE M W (dCon F dl) σ H Q) : tCB r (tCons (liftL M W dl) tNil) σ H Q := by
  obtain ⟨s, L, Qd, Ed, hs, hr, q, hq, lp⟩ := q
  show liftL M W dl σ H (fun x H1 => r [x] H1 Q)
  refine liftL_bind hs hr lp q fun ds L1 vs a H1 q1 ha rl n hr1 k1 k hs1 t1 lp1 => ?_
  exact h H1 (upd L1 a (.lst ds)) [.ref a] [.ref a] _ Q (RepL.one rfl) (hr1.put ha rl) (hF a ds L1 Qd n q1) fun d' L' v H' ⟨L2, le, q2⟩ r' hr' k' => hq d' L2 v H' q2 r' (hr'.le le) ((k.trans k').le le)
theorem q_conB {x : Str} {id : String} {r : List V → Hp → VK → Prop} {rD : RDA} {F : RDL} {p : Pos} (hc : CallR X (.builtin id) r) (h : CallD X.K r rD) (hF : ConOk rD F) (hg : Gl X x) (hm : X.mg x = none) (hv : bootBuiltins x = some (.builtin id)) (ha : QL X W e dl)
    (hn : x ≠ "__name__" := by decide) (hdb : (x == ("__debug__" : Str)) = false := by decide) (he : starEach [e] X.env = (false, eval e X.env) :: starEach [] X.env := by rfl) (hpl : (backTo pos (starEach [] X.env)).any (·.1) = false := by rfl) : QE X W (.Call (.Name x p) [e] [] pos) (dCon F dl) :=
  ⟨PE_mono (pe_callB hc hg hm hv (pa_cons ha.pe pa_nil he) hn hdb he hpl) fun _ _ _ q => lift_con h hF q⟩
theorem q_conTy {x : Str} {T : String} {r : List V → Hp → VK → Prop} {rD : RDA} {F : RDL} {p : Pos} (hc : CallR X (.type T) r) (h : CallD X.K r rD) (hF : ConOk rD F) (hg : Gl X x) (hm : X.mg x = none) (hv : bootBuiltins x = some (.type T)) (ha : QL X W e dl)
    (hn : x ≠ "__name__" := by decide) (hdb : (x == ("__debug__" : Str)) = false := by decide) (he : starEach [e] X.env = (false, eval e X.env) :: starEach [] X.env := by rfl) (hpl : (backTo pos (starEach [] X.env)).any (·.1) = false := by rfl) : QE X W (.Call (.Name x p) [e] [] pos) (dCon F dl) :=
  ⟨PE_mono (pe_callTy hc hg hm hv (pa_cons ha.pe pa_nil he) hn hdb he hpl) fun _ _ _ q => lift_con h hF q⟩
def fLen : RDL := fun ds L Q => Q (.int ds.length) L
def fTup : RDL := fun ds L Q => Q (.tup ds) L
def fSum : RDL := fun ds L Q => ∃ ns : List Int, ds = ns.map .int ∧ Q (.int ns.sum) L
def fMax : RDL := fun ds L Q => ∃ ns : List Int, ds = ns.map .int ∧ 0 < ns.length ∧ ∀ m, m ∈ ns → (∀ y, y ∈ ns → y ≤ m) → Q (.int m) L
def fMin : RDL := fun ds L Q => ∃ ns : List Int, ds = ns.map .int ∧ 0 < ns.length ∧ ∀ m, m ∈ ns → (∀ y, y ∈ ns → m ≤ y) → Q (.int m) L
def fAll : RDL := fun ds L Q => ∃ bs : List Bool, ds = bs.map .bl ∧ Q (.bl (bs.all id)) L
def fAny : RDL := fun ds L Q => ∃ bs : List Bool, ds = bs.map .bl ∧ Q (.bl (bs.any id)) L
theorem lstOf_put {L : DH} {a : Addr} {ds : List D} : lstOf (upd L a (.lst ds)) (.ref a) = some ds := by
  show (match upd L a (.lst ds) a with | some (.lst xs) => some xs | _ => none) = _
  rw [updD_same]
theorem co_len : ConOk dLen fLen := fun a ds L Q n q => ⟨ds, updD_same, L, Le.upd n, q⟩
theorem co_tup : ConOk dTupOf fTup := fun a ds L Q n q => ⟨ds, updD_same, L, Le.upd n, q⟩
theorem co_sum : ConOk dSum fSum := fun a ds L Q n ⟨ns, e, q⟩ => ⟨.ref a, ns, rfl, by rw [lstOf_put, e], L, Le.upd n, q⟩
theorem co_max : ConOk dMaxL fMax := fun a ds L Q n ⟨ns, e, h, q⟩ => ⟨.ref a, ns, rfl, by rw [lstOf_put, e], h, fun m h1 h2 => ⟨L, Le.upd n, q m h1 h2⟩⟩
theorem co_min : ConOk dMinL fMin := fun a ds L Q n ⟨ns, e, h, q⟩ => ⟨.ref a, ns, rfl, by rw [lstOf_put, e], h, fun m h1 h2 => ⟨L, Le.upd n, q m h1 h2⟩⟩
theorem co_all : ConOk dAll fAll := fun a ds L Q n ⟨ns, e, q⟩ => ⟨.ref a, ns, rfl, by rw [lstOf_put, e], L, Le.upd n, q⟩
theorem co_any : ConOk dAny fAny := fun a ds L Q n ⟨ns, e, q⟩ => ⟨.ref a, ns, rfl, by rw [lstOf_put, e], L, Le.upd n, q⟩
/-! == of two such lists -/
def eqL (L : DH) (ds es : List D) : Option Bool := match optAll (pyL L 59) ds, optAll (pyL L 59) es with
  | some ps, some qs => some (PyData.eqv (.list ps) (.list qs))
  | _, _ => none
theorem optAll_le {L L' : DH} (l : Le L L') : ∀ {ds : List D} {ps : List PyData}, optAll (pyL L 59) ds = some ps → optAll (pyL L' 59) ds = some ps
  | [], _, h => h
  | d :: ds, ps, h => by
    obtain ⟨y, ys, h1, h2, rfl⟩ := optAll_cons h
    rw [optAll_cons', pyL_le l _ _ _ h1, optAll_le l h2]; rfl
theorem eqL_put {L : DH} {a c : Addr} {ds es : List D} {b : Bool} (h : eqL L ds es = some b) (hl : Le L (upd (upd L a (.lst ds)) c (.lst es))) (hac : a ≠ c) : eqD (upd (upd L a (.lst ds)) c (.lst es)) (.ref a) (.ref c) = some b := by
  unfold eqL at h
  cases h1 : optAll (pyL L 59) ds with
  | none => rw [h1] at h; cases h
  | some ps =>
    cases h2 : optAll (pyL L 59) es with
    | none => rw [h1, h2] at h; cases h
    | some qs =>
      rw [h1, h2] at h
      rw [eqD_of (p := .list ps) (q := .list qs)]
      · exact h
      · rw [show (60 : Nat) = 59 + 1 from rfl, pyL_ref 59 (by rw [updD_ne hac, updD_same]), optAll_le hl h1]; rfl
      · rw [show (60 : Nat) = 59 + 1 from rfl, pyL_ref 59 updD_same, optAll_le hl h2]; rfl
/-- == and != of two such lists -/
def dEqLL (dl dl2 : DA) : DE := fun s L Q E => dl s L (fun ds L1 => dl2 s L1 (fun es L2 => ∃ b, eqL L2 ds es = some b ∧ Q (.bl b) L2) E) E
def dNeLL (dl dl2 : DA) : DE := fun s L Q E => dl s L (fun ds L1 => dl2 s L1 (fun es L2 => ∃ b, eqL L2 ds es = some b ∧ Q (.bl (!b)) L2) E) E
theorem lift_ll {M : KM} {r : R2} {rD : RD2} (f : Bool → Bool) (h : OpD M.K r rD) (hr0 : ∀ (x y : D) (L : DH) (Q : DK) (b : Bool), eqD L x y = some b → Q (.bl (f b)) L → rD x y L Q) {σ : L2.St} {H : Hp} {Q : VK}
    (q : liftE M W (fun s L Q E => dl s L (fun ds L1 => dl2 s L1 (fun es L2 => ∃ b, eqL L2 ds es = some b ∧ Q (.bl (f b)) L2) E) E) σ H Q) : tOp r (liftL M W dl) (liftL M W dl2) σ H Q := by
  obtain ⟨s, L, Qd, Ed, hs, hr, q, hq, lp⟩ := q
  refine liftL_bind hs hr lp q fun ds L1 vs a H1 q1 ha rl n hr1 k1 k hs1 t1 lp1 => ?_
  refine liftL_bind hs1 hr1 lp1 q1 fun es L2 us c H2 ⟨b, hb, q2⟩ hc rl2 n2 hr2 k2 k2' hs2 t2 lp2 => ?_
  obtain ⟨ha2, na2⟩ := k2 a _ ha n
  by_cases hac : a = c
  · subst hac
    exact absurd ha2 (by
      intro _
      have hx := k2' a _ ha n
      rw [updD_same] at hx
      cases hx.2)
  have R1 := (hr2.put ha2 (RepL.tk t2 _ _ rl)).put hc rl2
  have le1 : Le L2 (upd (upd L2 a (.lst ds)) c (.lst es)) := (Le.upd na2).trans (Le.upd (by rw [updD_ne (Ne.symm hac)]; exact n2))
  refine h H2 (upd (upd L2 a (.lst ds)) c (.lst es)) (.ref a) (.ref c) _ _ (fun d L' => ∃ L3, Le L3 L' ∧ Qd d L3) Q rfl rfl R1 (hr0 _ _ _ _ b (eqL_put hb le1 hac) ⟨L2, le1, q2⟩) fun d' L' v H' ⟨L3, le3, q3⟩ rep hr' k' => hq d' L3 v H' q3 rep (hr'.le le3) ?_
  have kk : Kp H L H2 (upd (upd L2 a (.lst ds)) c (.lst es)) := fun o u hu nu => by
    obtain ⟨g1, g2⟩ := k o u hu nu
    have oa : o ≠ a := by rintro rfl; rw [updD_same] at g2; cases g2
    have n1 : L1 o = none := by rw [updD_ne oa] at g2; exact g2
    obtain ⟨g3, g4⟩ := k2' o u g1 n1
    have oc : o ≠ c := by rintro rfl; rw [updD_same] at g4; cases g4
    refine ⟨g3, ?_⟩
    rw [updD_ne oc, updD_ne oa]
    rw [updD_ne oc] at g4
    exact g4
  exact (kk.trans k').le le3
theorem q_eqLL (hu : X.A.units + 64 < cLine) (ha : QL X W e dl) (hb : QL X W b dl2) (hm : behindInMarks .Eq b = false := by first | exact nomark _ | rfl) : QE X W (.Compare e [.Eq] [b] pos) (dEqLL dl dl2) :=
  ⟨PE_mono (pe_cmpR (op_eqD hu) ha.pe hb.pe hm) fun _ _ _ q => lift_ll (fun b => b) opd_eq (fun x y L Q b h1 h2 => ⟨b, h1, h2⟩) q⟩
theorem q_neLL (hu : X.A.units + 64 < cLine) (ha : QL X W e dl) (hb : QL X W b dl2) (hm : behindInMarks .NotEq b = false := by first | exact nomark _ | rfl) : QE X W (.Compare e [.NotEq] [b] pos) (dNeLL dl dl2) :=
  ⟨PE_mono (pe_cmpR (op_neD hu) ha.pe hb.pe hm) fun _ _ _ q => lift_ll (fun b => !b) opd_ne (fun x y L Q b h1 h2 => ⟨b, h1, h2⟩) q⟩
end
theorem eqL_nil {L : DH} {ds : List D} {ps : List PyData} (h : optAll (pyL L 59) ds = some ps) : eqL L ds [] = some (ds.isEmpty) := by
  unfold eqL
  rw [h]
  cases ds with
  | nil => cases h; rfl
  | cons d ds =>
    obtain ⟨y, ys, _, _, rfl⟩ := optAll_cons h
    rfl
/-- len(set(..)) of such a list -/
def dLenSetL (dl : DA) : DE := fun s L Q E => dl s L (fun ds L1 => ∃ ks, optAll keyD ds = some ks ∧ ks.length ≤ 4000 ∧ Q (.int (dd ks).length) L1) E
theorem q_lenSetL {X : Cx} {W : WX} {a : Expr} {dl : DA} {p p2 q pos : Pos} (hm : X.mg "len" = none) (hm2 : X.mg "set" = none) (ha : QL X W a dl) (hc : X.calm = true := by rfl) (hg : Gl X "len" := by rfl) (hg2 : Gl X "set" := by rfl)
    (na : starEach [a] X.env = (false, eval a X.env) :: starEach [] X.env := by rfl) : QE X W (.Call (.Name "len" p) [.Call (.Name "set" p2) [a] [] q] [] pos) (dLenSetL dl) := by
  refine ⟨PE_mono (pe_lenSet hm hm2 ha.pe hc hg hg2 na) fun σ H Q ⟨s, L, Qd, Ed, hs, hr, q, hq, lp⟩ => ?_⟩
  exact liftL_bind hs hr lp q fun ds L1 vs a H1 ⟨ks, e2, e3, q1⟩ ha rl n hr1 k1 k hs1 t1 lp1 => ⟨a, vs, ds, ks, rfl, .inl (SqL.of ha), rl, e2, e3, hq _ L1 _ H1 q1 rfl hr1 k1⟩
end D2

set_option Elab.async false
set_option linter.all false
set_option maxRecDepth 100000
set_option maxHeartbeats 1000000
/-! isinstance with a tuple of two built-in types -/
namespace D2
open PySem PySem.Spec PyProof.Rows L2
theorem isA_ok2 {K : PySem.W.Frag} {H : Hp} {L : DH} (hr : HR K H L) {d : D} {v : V} {t : Ty} {b : Bool} (h : isA L d t = some b) (r : Rep K H d v) : ∃ u, TyX K H v u ∧ ∀ (t' : Ty) (b' : Bool), isA L d t' = some b' → PySem.W.kitOne K u (.type t'.nm) = some b' := by
  have kA := kit_all
  cases d with
  | non => cases (show v = _ from r); exact ⟨_, .base .non, fun t' b' h' => by cases h'; exact kit_ty (kA t').1⟩
  | bl x => cases (show v = _ from r); exact ⟨_, .base (.bl x), fun t' b' h' => by cases h'; exact kit_ty (kA t').2.1⟩
  | int x => cases (show v = _ from r); exact ⟨_, .base (.int x), fun t' b' h' => by cases h'; exact kit_ty (kA t').2.2.1⟩
  | str x => cases (show v = _ from r.1); exact ⟨_, .base (.str x), fun t' b' h' => by cases h'; exact kit_ty (kA t').2.2.2.1⟩
  | tup ds => obtain ⟨a, vs, e, s, rl⟩ := r; subst e; exact ⟨_, tyX_tup s, fun t' b' h' => by cases h'; exact kit_ty (kA t').2.2.2.2.1⟩
  | lro ds => obtain ⟨a, vs, e, s, rl⟩ := r; subst e; exact ⟨_, tyX_fz s, fun t' b' h' => by cases h'; exact kit_ty (kA t').2.2.2.2.2⟩
  | exc _ _ _ _ _ => cases h
  | ref a =>
    have un : ∀ t', isA L (.ref a) t' = (match L a with | some (.lst _) => some (decide (t' = .lst)) | _ => none) := fun _ => rfl
    rw [un] at h
    cases q : L a with
    | none => rw [q] at h; cases h
    | some o =>
      cases o with
      | dct _ => rw [q] at h; cases h
      | dtp _ => rw [q] at h; cases h
      | obj _ _ => rw [q] at h; cases h
      | lst xs =>
        obtain ⟨vs, g⟩ := (hr a _ q).lst_of
        cases (show v = _ from r)
        exact ⟨_, .base (.lst g), fun t' b' h' => by rw [un, q] at h'; cases h'; exact kit_ty (kA t').2.2.2.2.2⟩
theorem isAny2_ok {K : PySem.W.Frag} {H : Hp} {L : DH} (hr : HR K H L) {d : D} {v : V} {t1 t2 : Ty} {b : Bool} (h : isAny L d [t1, t2] = some b) (r : Rep K H d v) : ∃ u, TyX K H v u ∧ PySem.W.kitAny K u [.type t1.nm, .type t2.nm] = some b := by
  have h : (match isA L d t1 with | some true => some true | some false => (match isA L d t2 with | some true => some true | some false => some false | none => none) | none => none) = some b := h
  cases h1 : isA L d t1 with
  | none => rw [h1] at h; cases h
  | some b1 =>
    obtain ⟨u, ty, kk⟩ := isA_ok2 hr h1 r
    have k1 := kk _ _ h1
    cases b1 with
    | true => rw [h1] at h; cases h; exact ⟨u, ty, kitAny_cons k1 (fun z => by cases z) (fun _ => rfl)⟩
    | false =>
      rw [h1] at h
      cases h2 : isA L d t2 with
      | none => rw [h2] at h; cases h
      | some b2 =>
        rw [h2] at h
        have k2 := kk _ _ h2
        cases b2 with
        | true => cases h; exact ⟨u, ty, kitAny_cons k1 (fun _ => kitAny_cons k2 (fun z => by cases z) (fun _ => rfl)) (fun z => by cases z)⟩
        | false => cases h; exact ⟨u, ty, kitAny_cons k1 (fun _ => kitAny_cons k2 (fun _ => kitAny_nil) (fun z => by cases z)) (fun z => by cases z)⟩
def dIsiT2 (t1 t2 : Ty) (da : DE) : DE := fun s L Q E => da s L (fun d L1 => ∃ b, isAny L1 d [t1, t2] = some b ∧ Q (.bl b) L1) E
theorem q_isiT2 {X : Cx} {W : WX} {pos : Pos} {a : Expr} {da : DE} {p p1 p2 pt : Pos} {k : Nat} {n1 n2 : Str} (t1 t2 : Ty) (hm : X.mg "isinstance" = none) (h1 : X.mg n1 = none) (h2 : X.mg n2 = none) (b1 : bootBuiltins n1 = some (.type t1.nm)) (b2 : bootBuiltins n2 = some (.type t2.nm)) (ha : QE X W a da)
    (hg : Gl X "isinstance" := by rfl) (hg1 : Gl X n1 := by rfl) (hg2 : Gl X n2 := by rfl) (hn1 : n1 ≠ "__name__" := by decide) (hn2 : n2 ≠ "__name__" := by decide) (hd1 : (n1 == ("__debug__" : Str)) = false := by decide) (hd2 : (n2 == ("__debug__" : Str)) = false := by decide)
    (he : starEach [a, .Tuple [.Name n1 p1, .Name n2 p2] k pt] X.env = (false, eval a X.env) :: starEach [.Tuple [.Name n1 p1, .Name n2 p2] k pt] X.env := by rfl) (he2 : starEach [.Tuple [.Name n1 p1, .Name n2 p2] k pt] X.env = (false, eval (.Tuple [.Name n1 p1, .Name n2 p2] k pt) X.env) :: starEach [] X.env := by rfl)
    (he3 : starEach [.Name n1 p1, .Name n2 p2] X.env = (false, eval (.Name n1 p1) X.env) :: starEach [.Name n2 p2] X.env := by rfl) (he4 : starEach [.Name n2 p2] X.env = (false, eval (.Name n2 p2) X.env) :: starEach [] X.env := by rfl)
    (hpl : (backTo pos (starEach [.Tuple [.Name n1 p1, .Name n2 p2] k pt] X.env)).any (·.1) = false := by rfl) :
    QE X W (.Call (.Name "isinstance" p) [a, .Tuple [.Name n1 p1, .Name n2 p2] k pt] [] pos) (dIsiT2 t1 t2 da) := by
  have hv : bootBuiltins "isinstance" = some (.builtin "isinstance") := by decide +kernel
  refine ⟨PE_mono (pe_callB call_isiT hg hm hv (pa_cons ha.pe (pa_cons (pe_tup (pa_cons (pe_bltn (v := .ty t1.nm) hg1 h1 b1 rfl hn1 hd1) (pa_cons (pe_bltn (v := .ty t2.nm) hg2 h2 b2 rfl hn2 hd2) pa_nil he4) he3)) pa_nil he2) he) (by decide) (by decide) he hpl) fun σ H Q ⟨s, L, Qd, Ed, hs, hr, q, hq, lp⟩ => ?_⟩
  refine liftE_bind hs hr lp q fun d L1 x H1 ⟨b, e, q1⟩ r1 hr1 k1 hs1 tk1 lp1 => ?_
  refine ⟨by show (2 : Nat) ≤ sizeLine; decide, fun p hp => ?_⟩
  have tk := HR.tk_new (o := .tup [V.ty t1.nm, V.ty t2.nm]) hp
  have r2 := Rep.tk tk _ _ r1
  obtain ⟨u, ty, kk⟩ := isAny2_ok (hr1.laid hp).1 e r2
  exact ⟨x, p, [.ty t1.nm, .ty t2.nm], u, [.type t1.nm, .type t2.nm], b, rfl, upd_same, .cons (.ty _) (.cons (.ty _) .nil), ty, kk, hq _ L1 _ _ q1 rfl (hr1.laid hp).1 (k1.trans (hr1.laid hp).2)⟩
end D2

set_option Elab.async false
set_option linter.all false
set_option maxRecDepth 100000
set_option maxHeartbeats 1000000
/-! tuple * int up to a million items -/
namespace D2
open PySem PySem.Spec PyProof.Rows L2
def rRepT2 (K : PySem.W.Frag) : R2 := fun x y H Q => ∃ l k xs, x = .ref l ∧ y = .int k ∧ SqT K H l xs ∧ xs ≠ [] ∧ 2 ≤ k ∧ (xs.length : Int) * k ≤ 16000000 ∧ ∀ p, H p = none → Q (.ref p) (L2.upd H p (.tup (List.replicate k.toNat xs).flatten))
theorem op_repT2 {X : Cx} : OpR X (binaryOp .Mult) (rRepT2 X.K) := by
  intro pins s σ H x y v u Q I rx ry ⟨l, k, xs, ex, ey, hT, hne, h1, hz, q⟩
  subst ex ey
  cases rx
  obtain ⟨t, rfl⟩ := ry
  obtain ⟨its, r, p0, _⟩ := I.tuple hT
  obtain ⟨o, ho, hc, n, hd⟩ := p0
  obtain ⟨cls, dd, data, sl⟩ := o
  have hc : cls = .type "tuple" := hc
  have hd : data = .seq its.toArray n := hd
  subst hc hd
  have hlen : its.length = xs.length := r.length.symm
  have hpos : 1 ≤ its.length := by
    rcases Nat.eq_zero_or_pos its.length with h0 | h0
    · exact absurd (List.length_eq_zero_iff.mp (hlen ▸ h0)) hne
    · exact h0
  have hem : its.toArray.isEmpty = false := by
    cases its with
    | nil => simp at hpos
    | cons a b => rfl
  have hm : ((its.toArray.size : Nat) : Int) * k ≤ 16000000 := by rw [List.size_toArray, hlen]; exact hz
  have hk : k ≤ 16000000 := by
    have a1 : (1 : Int) * k ≤ ((its.toArray.size : Nat) : Int) * k := Int.mul_le_mul_of_nonneg_right (by rw [List.size_toArray]; omega) (by omega)
    omega
  have hfl : (List.replicate k.toNat its).flatten.length ≤ sizeLine := by
    rw [PyProof.Rows.lm_len_rep_flat, hlen, sizeLine_eq]
    have e : ((k.toNat * xs.length : Nat) : Int) = (xs.length : Int) * k := by
      rw [Int.natCast_mul, Int.toNat_of_nonneg (by omega), Int.mul_comm]
    omega
  have b0 : (decide (k < -(2 ^ 63)) || decide (k ≥ 2 ^ 63)) = false := by simp; omega
  have b1 : (its.toArray.isEmpty || k == 1) = false := by rw [hem]; simp; omega
  have b2 : (decide (k ≤ 0) || its.toArray.isEmpty) = false := by rw [hem]; simp; omega
  have b4 : Builtin.Tuple.tupleTooMany (((its.toArray.size : Nat) : Int) * k) = false := by
    unfold Builtin.Tuple.tupleTooMany
    rw [sizeLine_eq]
    exact decide_eq_false (by omega)
  have mul := tuple_mulW l its.toArray n dd sl k t b0 b1 b2 (by omega) b4 (by rw [size_rep, List.size_toArray]; exact hfl)
  have rmul := int_rmul_tuple k t l its.toArray n dd sl
  have fin := fun (d : Drawn) => I.laid (t' := s.toks) (a := s.heap.objs.size) (o := .tup (List.replicate k.toNat xs).flatten) (h' := s.heap.push { cls := Value.type "tuple", data := Data.seq (List.replicate k.toNat its).flatten.toArray }) (fun b ob q => Heap.get?_push_of_some _ q) (Nat.le_refl _)
    ⟨by rw [PyProof.Rows.lm_len_rep_flat] at hfl ⊢; rw [hlen] at hfl; exact hfl, _, r.rep k.toNat, IsTup.new _ _⟩
  refine wpAny_binaryOp_repeat_ref (T := "tuple") (U := "int") (by decide) ⟨_, ho, rfl⟩ (fun s' => typeIs_int s' k t) noFill_tuple_mul F.fills_int_mul F.slot_int_rmul repeat_tuple F.slot_int_index.lookup ?_
  refine call_meets F.slot_int_rmul (typeIs_int s k t) F.entry_int_rmul (F.args_int_rmul_2 _ _) rmul ⟨ho, rfl, ⟨_, ho, rfl⟩, ?_⟩
  refine call_meets F.slot_tuple_mul ⟨_, ho, rfl⟩ F.entry_tuple_mul (F.args_tuple_mul_2 _ _) mul ⟨ho, ?_⟩
  rw [size_rep]
  exact ⟨.ref s.heap.objs.size, _, fin s.drawn, rfl, q _ (I.hok.fresh (Nat.le_refl _))⟩
abbrev rRepAll2 (K : PySem.W.Frag) : R2 := fun x y H Q => rRep x y H Q ∨ rRepT2 K x y H Q
theorem op_repAll2 {X : Cx} : OpR X (binaryOp .Mult) (rRepAll2 X.K) := op_rep.or op_repT2
def dRep2 : RD2 := fun x y L Q => match x, y with
  | .ref a, .int k => ∃ xs, L a = some (.lst xs) ∧ -(2 ^ 63) ≤ k ∧ k < 2 ^ 63 ∧ xs.length * k.toNat ≤ 16777216 ∧ ∀ p, L p = none → Q (.ref p) (upd L p (.lst (List.replicate k.toNat xs).flatten))
  | .tup xs, .int k => xs ≠ [] ∧ 2 ≤ k ∧ (xs.length : Int) * k ≤ 16000000 ∧ Q (.tup (List.replicate k.toNat xs).flatten) L
  | _, _ => False
theorem opd_rep2 {K : PySem.W.Frag} : OpD K (rRepAll2 K) dRep2 := fun H L d e x y Qd Q rx ry hr q k => by
  cases e with
  | int n =>
    cases d with
    | ref a =>
      obtain ⟨xs, h1, b1, b2, hl, q⟩ := q
      obtain ⟨vs, g1, r1⟩ := hr a _ h1
      exact .inl ⟨a, n, vs, rx, ry, g1, b1, b2, by rw [← r1.length]; exact line_of hl, fun p hp => k _ _ _ _ (q p (hr.free hp)) rfl (hr.new hp (r1.rep _)).1 (hr.new hp (r1.rep _)).2⟩
    | tup xs =>
      obtain ⟨hne, b1, b2, q⟩ := q
      obtain ⟨a, vs, e1, s1, r1⟩ := rx
      have hl2 := r1.length
      exact .inr ⟨a, n, vs, e1, ry, s1, by rintro rfl; exact hne (List.length_eq_zero_iff.mp hl2), b1, by rw [← hl2]; exact b2, fun p hp => k _ L _ _ q ⟨p, _, rfl, .inl (.inl upd_same), RepL.tk (HR.tk_new hp) _ _ (r1.rep _)⟩ (hr.laid hp).1 (hr.laid hp).2⟩
    | _ => exact False.elim q
  | _ => cases d <;> exact False.elim q
/-! == and != of two lists made at once, as tests -/
section
variable {X : Cx} {W : WX} {pos : Pos} {e b : Expr} {dl dl2 : DA}
theorem qt_eqLL (hu : X.A.units + 64 < cLine) (ha : QL X W e dl) (hb : QL X W b dl2) (hm : behindInMarks .Eq b = false := by first | exact nomark _ | rfl) : QT X W (.Compare e [.Eq] [b] pos) (dTest (dEqLL dl dl2)) :=
  ⟨PT_mono (pt_cmpR (op_eqD hu) ha.pe hb.pe hm) fun σ H Q q => by
    obtain ⟨s, L, Qd, Ed, hs, hr, q, hq, lp⟩ := q
    refine lift_ll (Q := fun x H' => ∃ k, x = .bl k ∧ Q k H') (fun b => b) opd_eq (fun x y L Q b h1 h2 => ⟨b, h1, h2⟩) ⟨s, L, fun d L1 => ∃ k, d = .bl k ∧ Qd k L1, Ed, hs, hr, q, fun d L1 x H1 ⟨k, e, q1⟩ r1 hr1 k1 => ?_, lp⟩
    subst e
    cases (show x = _ from r1)
    exact ⟨k, rfl, hq k L1 H1 q1 hr1 k1⟩⟩
theorem qt_neLL (hu : X.A.units + 64 < cLine) (ha : QL X W e dl) (hb : QL X W b dl2) (hm : behindInMarks .NotEq b = false := by first | exact nomark _ | rfl) : QT X W (.Compare e [.NotEq] [b] pos) (dTest (dNeLL dl dl2)) :=
  ⟨PT_mono (pt_cmpR (op_neD hu) ha.pe hb.pe hm) fun σ H Q q => by
    obtain ⟨s, L, Qd, Ed, hs, hr, q, hq, lp⟩ := q
    refine lift_ll (Q := fun x H' => ∃ k, x = .bl k ∧ Q k H') (fun b => !b) opd_ne (fun x y L Q b h1 h2 => ⟨b, h1, h2⟩) ⟨s, L, fun d L1 => ∃ k, d = .bl k ∧ Qd k L1, Ed, hs, hr, q, fun d L1 x H1 ⟨k, e, q1⟩ r1 hr1 k1 => ?_, lp⟩
    subst e
    cases (show x = _ from r1)
    exact ⟨k, rfl, hq k L1 H1 q1 hr1 k1⟩⟩
end
end D2

set_option Elab.async false
set_option linter.all false
set_option maxRecDepth 100000
set_option maxHeartbeats 1000000
/-! dictionaries with keys that are ints, texts, or written tuples of these -/
namespace D2
open PySem PySem.Spec PyProof.Rows L2
/-! ### keys -/
abbrev KD := Key ⊕ List Key
def KRep (H : Hp) : KD → V → Prop
  | .inl k, v => v = kV k
  | .inr ks, v => ∃ b, v = .ref b ∧ H b = some (.tup (ks.map kV))
theorem KRep.tk {H H' : Hp} (t : TK H H') : ∀ {k : KD} {v : V}, KRep H k v → KRep H' k v
  | .inl _, _, h => h
  | .inr _, _, ⟨b, e, h⟩ => ⟨b, e, t b _ h trivial⟩
abbrev DKy := DSt → DH → (KD → DH → Prop) → XD → Prop
def liftK (M : KM) (W : WX) (dk : DKy) : TE := fun σ H Q => ∃ s L Qd Ed, SR M.K H s σ ∧ HR M.K H L ∧ dk s L Qd Ed ∧ (∀ k L' v H', Qd k L' → KRep H' k v → HR M.K H' L' → Kp H L H' L' → Q v H') ∧ LP M W σ H L Ed
structure QKy (X : Cx) (W : WX) (e : Expr) (dk : DKy) : Prop where
  pe : PE X e (liftK X.km W dk)
theorem liftK_bind {M : KM} {W : WX} {σ : L2.St} {H : Hp} {dk : DKy} {s : DSt} {L : DH} {Qd : KD → DH → Prop} {Ed : XD} {R : VK} (hs : SR M.K H s σ) (hr : HR M.K H L) (lp : LP M W σ H L Ed) (h : dk s L Qd Ed)
    (hk : ∀ k L1 v H1, Qd k L1 → KRep H1 k v → HR M.K H1 L1 → Kp H L H1 L1 → SR M.K H1 s σ → TK H H1 → LP M W σ H1 L1 Ed → R v H1) : liftK M W dk σ H R :=
  ⟨s, L, Qd, Ed, hs, hr, h, fun k L1 v H1 q r r1 kk => hk k L1 v H1 q r r1 kk (hs.tk (kk.tk hr)) (kk.tk hr) (lp.after kk), lp⟩
theorem key_rep {K : PySem.W.Frag} {H : Hp} {d : D} {k : Key} {v : V} (h : keyD d = some k) (r : Rep K H d v) : v = kV k := by
  cases d with
  | int i => cases h; exact r
  | str z => cases h; exact r.1
  | _ => cases h
theorem keys_rep {K : PySem.W.Frag} {H : Hp} : ∀ {ds : List D} {ks : List Key} {vs : List V}, optAll keyD ds = some ks → RepL K H ds vs → vs = ks.map kV
  | [], _, _, h, r => by cases h; exact r
  | d :: ds, ks, _, h, ⟨v, vr, e, rv, rr⟩ => by
    obtain ⟨y, ys, h1, h2, rfl⟩ := optAll_cons h
    rw [e, key_rep h1 rv, keys_rep h2 rr]; rfl
def dKyE (de : DE) : DKy := fun s L Q E => de s L (fun d L1 => ∃ k, keyD d = some k ∧ Q (.inl k) L1) E
def dKyT (t : DA) : DKy := fun s L Q E => t s L (fun ds L1 => ds.length ≤ 16777216 ∧ ∃ ks, optAll keyD ds = some ks ∧ Q (.inr ks) L1) E
section
variable {X : Cx} {W : WX} {pos : Pos} {e : Expr}
theorem qk_e {de : DE} (h : QE X W e de) : QKy X W e (dKyE de) :=
  ⟨PE_mono h.pe fun σ H Q ⟨s, L, Qd, Ed, hs, hr, q, hq, lp⟩ => ⟨s, L, fun d L1 => ∃ k, keyD d = some k ∧ Qd (.inl k) L1, Ed, hs, hr, q, fun d L1 v H1 ⟨k, e1, q1⟩ r1 hr1 k1 => hq (.inl k) L1 v H1 q1 (key_rep e1 r1) hr1 k1, lp⟩⟩
theorem qk_tup {es : List Expr} {t : DA} {k : Nat} (h : QA X W es t) : QKy X W (.Tuple es k pos) (dKyT t) :=
  ⟨PE_mono (pe_tup h.pa) fun σ H Q ⟨s, L, Qd, Ed, hs, hr, q, hq, lp⟩ => liftA_bind hs hr lp q fun ds L1 vs H1 ⟨ql, ks, e1, q1⟩ r1 hr1 k1 hs1 t1 lp1 =>
    ⟨by rw [← r1.length]; exact line_of ql, fun p hp => hq (.inr ks) L1 _ _ q1 ⟨p, rfl, by rw [upd_same, keys_rep e1 r1]⟩ (hr1.laid hp).1 (k1.trans (hr1.laid hp).2)⟩⟩
end
/-! ### what a dictionary holds -/
section
variable {κ : Type} [DecidableEq κ]
def valD (kvs : List (κ × D)) (k : κ) : Option D := (kvs.find? fun kv => decide (kv.1 = k)).map (·.2)
def putD (kvs : List (κ × D)) (k : κ) (d : D) : List (κ × D) :=
  if (kvs.any fun kv => decide (kv.1 = k)) = true then kvs.map (fun kv => if kv.1 = k then (kv.1, d) else kv) else kvs ++ [(k, d)]
def ValR (K : PySem.W.Frag) (H : Hp) : Option D → Option V → Prop
  | some d, some v => Rep K H d v
  | none, none => True
  | _, _ => False
theorem val_rel {K : PySem.W.Frag} {H : Hp} (k : κ) : ∀ (kvs : List (κ × D)) (vs : List V), RepL K H (kvs.map (·.2)) vs → ValR K H (valD kvs k) (valV ((kvs.map (·.1)).zip vs) k)
  | [], vs, r => by cases (show vs = [] from r); trivial
  | p :: kvs, vs, r => by
    obtain ⟨v, vr, rfl, rv, rr⟩ := r
    have ih := val_rel k kvs vr rr
    by_cases h : p.1 = k
    · have e1 : valD (p :: kvs) k = some p.2 := by simp [valD, List.find?_cons, h]
      have e2 : valV (((p :: kvs).map (·.1)).zip (v :: vr)) k = some v := valV_pos h
      rw [e1, e2]
      exact rv
    · have e1 : valD (p :: kvs) k = valD kvs k := by simp [valD, List.find?_cons, h]
      have e2 : valV (((p :: kvs).map (·.1)).zip (v :: vr)) k = valV ((kvs.map (·.1)).zip vr) k := valV_neg h
      rw [e1, e2]
      exact ih
theorem any_zip (k : κ) : ∀ (kvs : List (κ × D)) (vs : List V), kvs.length = vs.length → (((kvs.map (·.1)).zip vs).any fun kv => decide (kv.1 = k)) = kvs.any fun kv => decide (kv.1 = k)
  | [], [], _ => rfl
  | p :: kvs, v :: vs, h => by
    rw [List.map_cons, List.zip_cons_cons, List.any_cons, List.any_cons, any_zip k kvs vs (by simpa using h)]
  | [], _ :: _, h => by cases h
  | _ :: _, [], h => by cases h
theorem map_put {K : PySem.W.Frag} {H : Hp} (k : κ) {d : D} {v : V} (rv : Rep K H d v) : ∀ (kvs : List (κ × D)) (vs : List V), RepL K H (kvs.map (·.2)) vs →
    ∃ vs', ((kvs.map (·.1)).zip vs).map (fun kv => if kv.1 = k then (kv.1, v) else kv) = ((kvs.map fun kv => if kv.1 = k then (kv.1, d) else kv).map (·.1)).zip vs' ∧ RepL K H ((kvs.map fun kv => if kv.1 = k then (kv.1, d) else kv).map (·.2)) vs'
  | [], vs, r => ⟨[], rfl, rfl⟩
  | p :: kvs, vs, r => by
    obtain ⟨w, vr, rfl, rw', rr⟩ := r
    obtain ⟨vs', e, r'⟩ := map_put k rv kvs vr rr
    by_cases h : p.1 = k
    · refine ⟨v :: vs', ?_, v, vs', rfl, ?_, r'⟩
      · rw [List.map_cons, List.zip_cons_cons, List.map_cons, e, List.map_cons, if_pos h, if_pos h, List.map_cons, List.zip_cons_cons]
      · show Rep K H (if p.1 = k then (p.1, d) else p).2 v
        rw [if_pos h]; exact rv
    · refine ⟨w :: vs', ?_, w, vs', rfl, ?_, r'⟩
      · rw [List.map_cons, List.zip_cons_cons, List.map_cons, e, List.map_cons, if_neg h, if_neg h, List.map_cons, List.zip_cons_cons]
      · show Rep K H (if p.1 = k then (p.1, d) else p).2 w
        rw [if_neg h]; exact rw'
theorem RepL.snoc {K : PySem.W.Frag} {H : Hp} {d : D} {v : V} (rv : Rep K H d v) : ∀ {ds : List D} {vs : List V}, RepL K H ds vs → RepL K H (ds ++ [d]) (vs ++ [v])
  | [], _, r => by cases (show _ = [] from r); exact ⟨v, [], rfl, rv, rfl⟩
  | _ :: _, _, ⟨w, vr, e, rw', rr⟩ => by subst e; exact ⟨w, vr ++ [v], rfl, rw', RepL.snoc rv rr⟩
theorem put_rel {K : PySem.W.Frag} {H : Hp} (k : κ) {d : D} {v : V} (rv : Rep K H d v) (kvs : List (κ × D)) (vs : List V) (r : RepL K H (kvs.map (·.2)) vs) : ∃ vs', putK ((kvs.map (·.1)).zip vs) k v = ((putD kvs k d).map (·.1)).zip vs' ∧ RepL K H ((putD kvs k d).map (·.2)) vs' := by
  have hl : kvs.length = vs.length := by have := r.length; rwa [List.length_map] at this
  unfold putK putD
  rw [any_zip k kvs vs hl]
  by_cases h : (kvs.any fun kv => decide (kv.1 = k)) = true
  · rw [if_pos h, if_pos h]
    exact map_put k rv kvs vs r
  · rw [if_neg h, if_neg h]
    refine ⟨vs ++ [v], ?_, ?_⟩
    · rw [List.map_append, List.zip_append (by rw [List.length_map]; exact hl)]; rfl
    · rw [List.map_append]; exact RepL.snoc rv r
end
def getK (L : DH) (a : Addr) (k : KD) : Option (Option D) := match L a, k with
  | some (.dct kvs), .inl k => some (valD kvs k)
  | some (.dtp kvs), .inr ks => some (valD kvs ks)
  | _, _ => none
theorem getK_rel {K : PySem.W.Frag} {H : Hp} {L : DH} {a : Addr} {k : KD} {v : V} {o : Option D} (h : getK L a k = some o) (hr : HR K H L) (rk : KRep H k v) : ∃ ov, DGet H a v ov ∧ ValR K H o ov := by
  unfold getK at h
  cases hL : L a with
  | none => rw [hL] at h; cases h
  | some ob =>
    rw [hL] at h
    cases ob with
    | dct kvs =>
      cases k with
      | inl k =>
        cases h
        cases (show v = _ from rk)
        obtain ⟨vs, h1, h2⟩ := hr a _ hL
        exact ⟨_, DGet.k h1, val_rel k kvs vs h2⟩
      | inr ks => cases h
    | dtp kvs =>
      cases k with
      | inr ks =>
        cases h
        obtain ⟨b, rfl, hb⟩ := rk
        obtain ⟨vs, h1, h2⟩ := hr a _ hL
        exact ⟨_, DGet.t h1 hb, val_rel ks kvs vs h2⟩
      | inl k => cases h
    | lst _ => cases k <;> cases h
    | obj _ _ => cases k <;> cases h
/-- a[k] = d -/
def putKD (L : DH) (a : Addr) (k : KD) (d : D) (P : DH → Prop) : Prop := match L a, k with
  | some (.dct kvs), .inl k => kvs.length < 16777216 ∧ P (upd L a (.dct (putD kvs k d)))
  | some (.dtp kvs), .inr ks => kvs.length < 16777216 ∧ P (upd L a (.dtp (putD kvs ks d)))
  | _, _ => False
/-- an object written anew -/
theorem HR.put2 {K : PySem.W.Frag} {H : Hp} {L : DH} (r : HR K H L) {p : Addr} {o o' : DO} {u : HO} (hp : L p = some o) (q : ∀ H', TK H H' → H' p = some u → OkO K H' p o') : HR K (L2.upd H p u) (upd L p o') ∧ Kp H L (L2.upd H p u) (upd L p o') := by
  obtain ⟨us, hu, ni⟩ := (r p _ hp).live
  have ne : ∀ a, L a = none → a ≠ p := fun a n e => by subst e; rw [n] at hp; cases hp
  have tk : TK H (L2.upd H p u) := fun a o h i => by
    rw [upd_ne]; exact h
    rintro rfl
    rw [hu] at h; cases h; exact ni i
  refine ⟨fun a o h => ?_, fun a o h n => ⟨by rw [upd_ne (ne a n)]; exact h, by rw [updD_ne (ne a n)]; exact n⟩⟩
  by_cases e : a = p
  · subst e
    rw [updD_same] at h; cases h
    exact q _ tk upd_same
  · rw [updD_ne e] at h
    exact (r a o h).tk tk fun u hu => by rw [upd_ne e]; exact hu
theorem putK_rel {K : PySem.W.Frag} {H : Hp} {L : DH} {a : Addr} {k : KD} {y v : V} {d : D} {P : DH → Prop} (h : putKD L a k d P) (hr : HR K H L) (rk : KRep H k y) (rv : Rep K H d v) : ∃ H' L', DPut H a y v H' ∧ P L' ∧ HR K H' L' ∧ Kp H L H' L' := by
  unfold putKD at h
  cases hL : L a with
  | none => rw [hL] at h; exact h.elim
  | some ob =>
    rw [hL] at h
    cases ob with
    | dct kvs =>
      cases k with
      | inl k =>
        obtain ⟨hl, hP⟩ := h
        cases (show y = _ from rk)
        obtain ⟨vs, h1, h2⟩ := hr a _ hL
        obtain ⟨vs', e, r'⟩ := put_rel k rv kvs vs h2
        have hz : ((kvs.map (·.1)).zip vs).length < sizeLine := by rw [List.length_zip, List.length_map]; exact Nat.lt_of_le_of_lt (Nat.min_le_left _ _) (line_lt hl)
        have pp := DPut.k (k := k) (v := v) h1 hz
        rw [e] at pp
        obtain ⟨g1, g2⟩ := hr.put2 (u := .dK (((putD kvs k d).map (·.1)).zip vs')) (o' := .dct (putD kvs k d)) hL fun H' t hh => ⟨vs', hh, RepL.tk t _ _ r'⟩
        exact ⟨_, _, pp, hP, g1, g2⟩
      | inr ks => exact h.elim
    | dtp kvs =>
      cases k with
      | inr ks =>
        obtain ⟨hl, hP⟩ := h
        obtain ⟨b, rfl, hb⟩ := rk
        obtain ⟨vs, h1, h2⟩ := hr a _ hL
        obtain ⟨vs', e, r'⟩ := put_rel ks rv kvs vs h2
        have hz : ((kvs.map (·.1)).zip vs).length < sizeLine := by rw [List.length_zip, List.length_map]; exact Nat.lt_of_le_of_lt (Nat.min_le_left _ _) (line_lt hl)
        have pp := DPut.t (k := ks) (v := v) h1 hb hz
        rw [e] at pp
        obtain ⟨g1, g2⟩ := hr.put2 (u := .dT (((putD kvs ks d).map (·.1)).zip vs')) (o' := .dtp (putD kvs ks d)) hL fun H' t hh => ⟨vs', hh, RepL.tk t _ _ r'⟩
        exact ⟨_, _, pp, hP, g1, g2⟩
      | inl k => exact h.elim
    | lst _ => cases k <;> exact h.elim
    | obj _ _ => cases k <;> exact h.elim
/-! ### the rules -/
def dDGet (do_ : DE) (dk : DKy) : DE := fun s L Q E => do_ s L (fun x L1 => dk s L1 (fun k L2 => match x with | .ref a => ∃ d, getK L2 a k = some (some d) ∧ Q d L2 | _ => False) E) E
def dDIn (neg : Bool) (dk : DKy) (do_ : DE) : DE := fun s L Q E => dk s L (fun k L1 => do_ s L1 (fun x L2 => match x with | .ref a => ∃ o, getK L2 a k = some o ∧ Q (.bl (neg.xor o.isSome)) L2 | _ => False) E) E
def dDNewK : DE := fun _ L Q _ => ∀ p, L p = none → Q (.ref p) (upd L p (.dct []))
def dDNewT : DE := fun _ L Q _ => ∀ p, L p = none → Q (.ref p) (upd L p (.dtp []))
def sDPutD (dv do_ : DE) (dk : DKy) : DS := fun dn s L => dv s L (fun d L1 => do_ s L1 (fun x L2 => dk s L2 (fun k L3 => match x with | .ref a => putKD L3 a k d (fun L4 => dn.nx s L4) | _ => False) (xOf dn s)) (xOf dn s)) (xOf dn s)
section
variable {X : Cx} {W : WX} {pos : Pos} {o i value : Expr} {do_ dv : DE} {dk : DKy}
theorem q_dget (hu : X.A.units + 64 < cLine) (ho : QE X W o do_) (hk : QKy X W i dk) (hs : NoSl i) : QE X W (.Subscript o i pos) (dDGet do_ dk) := by
  refine ⟨PE_mono (pe_dget (by omega) ho.pe hk.pe hs) fun σ H Q ⟨s, L, Qd, Ed, hs, hr, q, hq, lp⟩ => ?_⟩
  refine liftE_bind hs hr lp q fun x L1 v1 H1 q1 r1 hr1 k1 hs1 t1 lp1 => ?_
  refine liftK_bind hs1 hr1 lp1 q1 fun k L2 v2 H2 q2 r2 hr2 k2 hs2 t2 lp2 => ?_
  cases x with
  | ref a =>
    obtain ⟨d, e1, q3⟩ := q2
    obtain ⟨ov, g, rv⟩ := getK_rel e1 hr2 r2
    cases ov with
    | none => exact rv.elim
    | some u => exact ⟨a, u, r1, g, hq d L2 u H2 q3 rv hr2 (k1.trans k2)⟩
  | _ => exact False.elim q2
theorem dIn_core {M : KM} {W : WX} {σ : L2.St} {H : Hp} {Q : VK} (neg : Bool) (q : liftE M W (dDIn neg dk do_) σ H Q) : liftK M W dk σ H fun y H1 => liftE M W do_ σ H1 fun x H2 => ∃ a ov, x = .ref a ∧ DGet H2 a y ov ∧ Q (.bl (neg.xor ov.isSome)) H2 := by
  obtain ⟨s, L, Qd, Ed, hs, hr, q, hq, lp⟩ := q
  refine liftK_bind hs hr lp q fun k L1 v1 H1 q1 r1 hr1 k1 hs1 t1 lp1 => ?_
  refine liftE_bind hs1 hr1 lp1 q1 fun x L2 v2 H2 q2 r2 hr2 k2 hs2 t2 lp2 => ?_
  cases x with
  | ref a =>
    obtain ⟨o, e1, q3⟩ := q2
    obtain ⟨ov, g, rv⟩ := getK_rel e1 hr2 (r1.tk t2)
    have es : o.isSome = ov.isSome := by
      cases o <;> cases ov
      · rfl
      · exact rv.elim
      · exact rv.elim
      · rfl
    exact ⟨a, ov, r2, g, hq _ L2 _ H2 q3 (by rw [es]; rfl) hr2 (k1.trans k2)⟩
  | _ => exact False.elim q2
theorem q_din (hu : X.A.units + 64 < cLine) (hk : QKy X W i dk) (ho : QE X W o do_) (hm : behindInMarks .In o = false := by rfl) : QE X W (.Compare i [.In] [o] pos) (dDIn false dk do_) :=
  ⟨PE_mono (pe_cmp (pc_din (by omega) hk.pe ho.pe) hm) fun σ H Q q => by
    have := dIn_core false q
    simp only [Bool.false_xor] at this
    exact this⟩
theorem q_dnin (hu : X.A.units + 64 < cLine) (hk : QKy X W i dk) (ho : QE X W o do_) (hm : behindInMarks .NotIn o = false := by rfl) : QE X W (.Compare i [.NotIn] [o] pos) (dDIn true dk do_) :=
  ⟨PE_mono (pe_cmp (pc_dnotin (by omega) hk.pe ho.pe) hm) fun σ H Q q => by
    have := dIn_core true q
    simp only [Bool.true_xor] at this
    exact this⟩
/-- as tests -/
theorem dIn_test {M : KM} {W : WX} {σ : L2.St} {H : Hp} {Q : Bool → Hp → Prop} (neg : Bool) (q : liftT M W (dTest (dDIn neg dk do_)) σ H Q) : liftE M W (dDIn neg dk do_) σ H fun x H' => ∃ k, x = .bl k ∧ Q k H' := by
  obtain ⟨s, L, Qd, Ed, hs, hr, q, hq, lp⟩ := q
  refine ⟨s, L, fun d L1 => ∃ k, d = .bl k ∧ Qd k L1, Ed, hs, hr, q, fun d L1 x H1 ⟨k, e, q1⟩ r1 hr1 k1 => ?_, lp⟩
  subst e
  cases (show x = _ from r1)
  exact ⟨k, rfl, hq k L1 H1 q1 hr1 k1⟩
theorem qt_din (hu : X.A.units + 64 < cLine) (hk : QKy X W i dk) (ho : QE X W o do_) (hm : behindInMarks .In o = false := by rfl) : QT X W (.Compare i [.In] [o] pos) (dTest (dDIn false dk do_)) :=
  ⟨PT_mono (pt_cmp (pc_din (by omega) hk.pe ho.pe) hm) fun σ H Q q => by
    have := dIn_core false (dIn_test false q)
    simp only [Bool.false_xor] at this
    exact this⟩
theorem qt_dnin (hu : X.A.units + 64 < cLine) (hk : QKy X W i dk) (ho : QE X W o do_) (hm : behindInMarks .NotIn o = false := by rfl) : QT X W (.Compare i [.NotIn] [o] pos) (dTest (dDIn true dk do_)) :=
  ⟨PT_mono (pt_cmp (pc_dnotin (by omega) hk.pe ho.pe) hm) fun σ H Q q => by
    have := dIn_core true (dIn_test true q)
    simp only [Bool.true_xor] at this
    exact this⟩
/-- new dictionaries -/
theorem HR.newO {K : PySem.W.Frag} {H : Hp} {L : DH} (r : HR K H L) {p : Addr} {o : DO} {u : HO} (hp : H p = none) (q : ∀ H', H' p = some u → OkO K H' p o) : HR K (L2.upd H p u) (upd L p o) ∧ Kp H L (L2.upd H p u) (upd L p o) := by
  have tk : TK H (L2.upd H p u) := fun a o h _ => by rw [upd_ne (ne_of_none h hp)]; exact h
  refine ⟨fun a o h => ?_, fun a o h n => ⟨by rw [upd_ne (ne_of_none h hp)]; exact h, by rw [updD_ne (ne_of_none h hp)]; exact n⟩⟩
  by_cases e : a = p
  · subst e
    rw [updD_same] at h; cases h
    exact q _ upd_same
  · rw [updD_ne e] at h
    exact (r a o h).tk tk fun u hu => by rw [upd_ne e]; exact hu
theorem q_dnewK : QE X W (.Dict [] [] pos) dDNewK :=
  ⟨PE_mono pe_dnewK fun σ H Q ⟨s, L, Qd, Ed, hs, hr, q, hq, lp⟩ => fun p hp => by
    obtain ⟨g1, g2⟩ := hr.newO (o := .dct []) (u := .dK []) hp fun H' hh => ⟨[], hh, rfl⟩
    exact hq _ _ _ _ (q p (hr.free hp)) rfl g1 g2⟩
theorem q_dnewT : QE X W (.Dict [] [] pos) dDNewT :=
  ⟨PE_mono pe_dnewT fun σ H Q ⟨s, L, Qd, Ed, hs, hr, q, hq, lp⟩ => fun p hp => by
    obtain ⟨g1, g2⟩ := hr.newO (o := .dtp []) (u := .dT []) hp fun H' hh => ⟨[], hh, rfl⟩
    exact hq _ _ _ _ (q p (hr.free hp)) rfl g1 g2⟩
/-- o[i] = value -/
theorem qs_dput {pos' : Pos} (hu : X.A.units + 64 < cLine) (ho : QE X W o do_) (hk : QKy X W i dk) (hv : QE X W value dv) (hs : swapsWith value (some (.Subscript o i pos')) pos.line X.env = pure false := by rfl) : QS X W (.Assign [.Subscript o i pos'] value pos) (sDPutD dv do_ dk) :=
  ⟨PS_mono (ps_dput (by omega) ho.pe hk.pe hv.pe hs) fun Dn σ H ⟨s, L, dn, hs, hr, h, p⟩ => by
    refine liftE_bind hs hr (p.lp hs hr) h fun d L1 v H1 q1 r1 hr1 k1 hs1 t1 lp1 => ?_
    refine liftE_bind hs1 hr1 lp1 q1 fun x L2 v2 H2 q2 r2 hr2 k2 hs2 t2 lp2 => ?_
    refine liftK_bind hs2 hr2 lp2 q2 fun k L3 y H3 q3 r3 hr3 k3 hs3 t3 lp3 => ?_
    cases x with
    | ref a =>
      obtain ⟨H4, L4, pp, q4, hr4, k4⟩ := putK_rel q3 hr3 r3 (Rep.tk t3 _ _ (Rep.tk t2 _ _ r1))
      exact ⟨a, H4, r2, pp, p.nx _ L4 σ H4 q4 (hs3.tk (k4.tk hr3)) hr4 (((k1.trans k2).trans k3).trans k4)⟩
    | _ => exact False.elim q3⟩
end
end D2

set_option Elab.async false
set_option linter.all false
set_option maxRecDepth 100000
set_option maxHeartbeats 1000000
namespace D2
open PySem PySem.Spec PyProof.Rows L2
/-! ### what a program is -/
def isInt : D → Bool
  | .int _ => true
  | _ => false
def wthn (d : D) (i j : Int) : Bool := match d with
  | .int x => decide (i ≤ x ∧ x ≤ j)
  | _ => false
theorem lstOf_ref {L : DH} {a : Addr} {xs : List D} (h : L a = some (.lst xs)) : lstOf L (.ref a) = some xs := by
  show (match L a with | some (.lst xs) => some xs | _ => none) = _
  rw [h]
theorem itemsOf_ref {L : DH} {a : Addr} {xs : List D} (h : L a = some (.lst xs)) : itemsOf L (.ref a) = some xs := by
  show (match L a with | some (.lst xs) => some xs | _ => none) = _
  rw [h]
theorem isSeq_ref {L : DH} {a : Addr} {xs : List D} (h : L a = some (.lst xs)) : isSeq L (.ref a) = some (xs, fun L' => L' a = some (DO.lst xs)) := by
  show (match L a with | some (DO.lst ds) => some (ds, fun L' : DH => L' a = some (DO.lst ds)) | _ => none) = _
  rw [h]
theorem all_end {L : DH} {p : Addr} {acc : List D} {bs : List Bool} {Q : DK} {E : XD} (hp : L p = none) (e : acc = bs.map D.bl) (q : Q (.bl (bs.all id)) L) : dAll [.ref p] (upd L p (.lst acc)) (fnEnds Q E).rt :=
  ⟨.ref p, bs, rfl, by rw [lstOf_ref updD_same, e], L, Le.upd hp, q⟩
theorem all_in {L : DH} {p : Addr} {acc : List D} {bs : List Bool} {K : DK} (e : acc = bs.map D.bl) (q : K (.bl (bs.all id)) (upd L p (.lst acc))) : dAll [.ref p] (upd L p (.lst acc)) K :=
  ⟨.ref p, bs, rfl, by rw [lstOf_ref updD_same, e], q⟩
def Tm (L : DH) (d : D) : Prop := ∃ n, n ≤ 30 ∧ Tame L n d
theorem Tm.known {L : DH} {d : D} (h : Tm L d) : Known L d := let ⟨_, _, h⟩ := h; h.known
theorem Tm.le {L L' : DH} (l : Le L L') {d : D} (h : Tm L d) : Tm L' d := let ⟨n, a, h⟩ := h; ⟨n, a, h.le l⟩
theorem Tm.mem {L : DH} {ds : List D} (h : Tm L (.tup ds)) {d : D} (hd : d ∈ ds) : Tm L d := by
  obtain ⟨n, a, h⟩ := h
  cases n with
  | zero => exact h.elim
  | succ n => exact ⟨n, by omega, h.2 d hd⟩
theorem Tm.len {L : DH} {ds : List D} (h : Tm L (.tup ds)) : ds.length ≤ 16777216 := by
  obtain ⟨n, a, h⟩ := h
  cases n with
  | zero => exact h.elim
  | succ n => exact h.1
theorem Tm.str {L : DH} {z : Str} (h : Tm L (.str z)) : z.length ≤ 16777216 := by
  obtain ⟨n, a, h⟩ := h
  cases n <;> exact h
theorem Tm.eqs {L : DH} {d : D} (h : Tm L d) (z : Str) : eqD L d (.str z) = some (isStr d z) := let ⟨_, a, h⟩ := h; eqD_tame h a z
theorem Known.le {L L' : DH} (l : Le L L') {d : D} (h : Known L d) : Known L' d := by
  cases d with
  | ref a => obtain ⟨xs, e⟩ := h; exact ⟨xs, l _ _ e⟩
  | _ => trivial
def sp_is_int : SpD := fun ds L Q _ => ∃ d, ds = [d] ∧ Known L d ∧ Q (.bl (isInt d)) L
theorem len_is_int : ∀ as L Q E, sp_is_int as L Q E → as.length = 1 := by rintro _ L Q E ⟨d, rfl, _⟩; rfl
def d_is_int : DS :=
  (sRet (dAndV (dIsi .int (dVar 0)) (dNotV (dIsi .bool (dVar 0)))))

theorem pure_is_int : ∀ as L Q E, sp_is_int as L Q E → d_is_int (fnEnds Q E) (dstart 1 as) L := by
  rintro as L Q E ⟨d, rfl, hk, q⟩
  have q' := endOf q
  cases d with
  | ref a =>
    obtain ⟨xs, hk⟩ := hk
    simp only [d_is_int, hk, dVar, dC, dOp, dUn, dNil, dCons, dTup, dLst, dCB, dTest, dAnd, dOr, dNot, dAndV, dOrV, dNotV, dIfE, dChain, sNext, sSeq, sBreak, sCont, sDrop, sRet, sRetN, sIf, gdName, gdNil, gdCons, gdTup, gdSub, sAsg, dCall, xOf, sFor, dSeq, dRng1, dRng2, dI, dI0, dB0, dAdd, dIsN, dNotN, isNon, dIx, dSetL, dNeg, one, two, dLen1, dListOf1, dTupOf1, dAbs1, dIntOf1, dII, marg, dAppend1, dExtend1, dIsi, isA, dSl, dPart, dNoPart, dCut, dLc, dYes, sRaise, sTry, exBy, sPar2, sPar3, dIsBl, dNotBl, dBM, dBM0, dEq, dNe, dIn, dSgn, dIsiT2, isAny, dLenSet, dLstL, dOfE, dIxL, dCon, fLen, fTup, fSum, fMax, fMin, fAll, fAny, dEqLL, dNeLL, dLenSetL, dRefL, sTryN, exByN, goneD, withD, dXf, sRaiseF, dLc2, dEnum, dListRg1, dListRg2, dTupRg1, dTupRg2, dStrOf1, dRep, dLenSet, dstart, fnE_nx, fnE_rt, fnE_ex, Nat.zero_le, Nat.reduceLeDiff, decide_true, decide_false, true_or, or_true, false_or, or_false, decide_eq_true_eq, exists_eq_left', exists_eq_left, exists_eq_right, exists_eq_right', Option.some.injEq, List.cons.injEq, D.int.injEq, D.bl.injEq, D.str.injEq, D.tup.injEq, D.lro.injEq, D.ref.injEq, DO.lst.injEq, and_true, true_and, and_false, false_and, exists_false, exists_const, List.getElem?_cons_zero, List.getElem?_cons_succ, List.map_cons, List.map_nil, List.length_cons, List.length_nil, List.replicate_zero, List.replicate_succ, List.append_nil, List.cons_append, List.nil_append, List.set_cons_zero, List.set_cons_succ, Nat.reduceAdd, Nat.reduceSub, Nat.zero_add, reduceIte, Bool.false_eq_true, reduceCtorEq, if_true, if_false, Bool.not_true, Bool.not_false, exists_and_left]
    exact q'
  | exc _ _ _ _ _ => exact hk.elim
  | _ =>
    simp only [d_is_int, dVar, dC, dOp, dUn, dNil, dCons, dTup, dLst, dCB, dTest, dAnd, dOr, dNot, dAndV, dOrV, dNotV, dIfE, dChain, sNext, sSeq, sBreak, sCont, sDrop, sRet, sRetN, sIf, gdName, gdNil, gdCons, gdTup, gdSub, sAsg, dCall, xOf, sFor, dSeq, dRng1, dRng2, dI, dI0, dB0, dAdd, dIsN, dNotN, isNon, dIx, dSetL, dNeg, one, two, dLen1, dListOf1, dTupOf1, dAbs1, dIntOf1, dII, marg, dAppend1, dExtend1, dIsi, isA, dSl, dPart, dNoPart, dCut, dLc, dYes, sRaise, sTry, exBy, sPar2, sPar3, dIsBl, dNotBl, dBM, dBM0, dEq, dNe, dIn, dSgn, dIsiT2, isAny, dLenSet, dLstL, dOfE, dIxL, dCon, fLen, fTup, fSum, fMax, fMin, fAll, fAny, dEqLL, dNeLL, dLenSetL, dRefL, sTryN, exByN, goneD, withD, dXf, sRaiseF, dLc2, dEnum, dListRg1, dListRg2, dTupRg1, dTupRg2, dStrOf1, dRep, dLenSet, dstart, fnE_nx, fnE_rt, fnE_ex, Nat.zero_le, Nat.reduceLeDiff, decide_true, decide_false, true_or, or_true, false_or, or_false, decide_eq_true_eq, exists_eq_left', exists_eq_left, exists_eq_right, exists_eq_right', Option.some.injEq, List.cons.injEq, D.int.injEq, D.bl.injEq, D.str.injEq, D.tup.injEq, D.lro.injEq, D.ref.injEq, DO.lst.injEq, and_true, true_and, and_false, false_and, exists_false, exists_const, List.getElem?_cons_zero, List.getElem?_cons_succ, List.map_cons, List.map_nil, List.length_cons, List.length_nil, List.replicate_zero, List.replicate_succ, List.append_nil, List.cons_append, List.nil_append, List.set_cons_zero, List.set_cons_succ, Nat.reduceAdd, Nat.reduceSub, Nat.zero_add, reduceIte, Bool.false_eq_true, reduceCtorEq, if_true, if_false, Bool.not_true, Bool.not_false, exists_and_left]
    exact q'
def sp_within : SpD := fun ds L Q _ => ∃ d i j, ds = [d, .int i, .int j] ∧ Known L d ∧ Q (.bl (wthn d i j)) L
theorem len_within : ∀ as L Q E, sp_within as L Q E → as.length = 3 := by rintro _ L Q E ⟨d, i, j, rfl, _⟩; rfl
def d_within : DS :=
  (sRet (dAndV (dCall sp_is_int (dCons (dVar 0) dNil)) (dChain dLe dLe (dVar 1) (dVar 0) (dVar 2))))

theorem pure_within : ∀ as L Q E, sp_within as L Q E → d_within (fnEnds Q E) (dstart 3 as) L := by
  rintro as L Q E ⟨d, i, j, rfl, hk, q⟩
  have q' := endOf q
  simp only [d_within, sp_is_int, dVar, dC, dOp, dUn, dNil, dCons, dTup, dLst, dCB, dTest, dAnd, dOr, dNot, dAndV, dOrV, dNotV, dIfE, dChain, sNext, sSeq, sBreak, sCont, sDrop, sRet, sRetN, sIf, gdName, gdNil, gdCons, gdTup, gdSub, sAsg, dCall, xOf, sFor, dSeq, dRng1, dRng2, dI, dI0, dB0, dAdd, dIsN, dNotN, isNon, dIx, dSetL, dNeg, one, two, dLen1, dListOf1, dTupOf1, dAbs1, dIntOf1, dII, marg, dAppend1, dExtend1, dIsi, isA, dSl, dPart, dNoPart, dCut, dLc, dYes, sRaise, sTry, exBy, sPar2, sPar3, dIsBl, dNotBl, dBM, dBM0, dEq, dNe, dIn, dSgn, dIsiT2, isAny, dLenSet, dLstL, dOfE, dIxL, dCon, fLen, fTup, fSum, fMax, fMin, fAll, fAny, dEqLL, dNeLL, dLenSetL, dRefL, sTryN, exByN, goneD, withD, dXf, sRaiseF, dLc2, dEnum, dListRg1, dListRg2, dTupRg1, dTupRg2, dStrOf1, dRep, dLenSet, dstart, fnE_nx, fnE_rt, fnE_ex, Nat.zero_le, Nat.reduceLeDiff, decide_true, decide_false, true_or, or_true, false_or, or_false, decide_eq_true_eq, exists_eq_left', exists_eq_left, exists_eq_right, exists_eq_right', Option.some.injEq, List.cons.injEq, D.int.injEq, D.bl.injEq, D.str.injEq, D.tup.injEq, D.lro.injEq, D.ref.injEq, DO.lst.injEq, and_true, true_and, and_false, false_and, exists_false, exists_const, List.getElem?_cons_zero, List.getElem?_cons_succ, List.map_cons, List.map_nil, List.length_cons, List.length_nil, List.replicate_zero, List.replicate_succ, List.append_nil, List.cons_append, List.nil_append, List.set_cons_zero, List.set_cons_succ, Nat.reduceAdd, Nat.reduceSub, Nat.zero_add, reduceIte, Bool.false_eq_true, reduceCtorEq, if_true, if_false, Bool.not_true, Bool.not_false, exists_and_left]
  refine ⟨hk, ?_⟩
  cases d with
  | int x =>
    simp only [isInt, dVar, dC, dOp, dUn, dNil, dCons, dTup, dLst, dCB, dTest, dAnd, dOr, dNot, dAndV, dOrV, dNotV, dIfE, dChain, sNext, sSeq, sBreak, sCont, sDrop, sRet, sRetN, sIf, gdName, gdNil, gdCons, gdTup, gdSub, sAsg, dCall, xOf, sFor, dSeq, dRng1, dRng2, dI, dI0, dB0, dAdd, dIsN, dNotN, isNon, dIx, dSetL, dNeg, one, two, dLen1, dListOf1, dTupOf1, dAbs1, dIntOf1, dII, marg, dAppend1, dExtend1, dIsi, isA, dSl, dPart, dNoPart, dCut, dLc, dYes, sRaise, sTry, exBy, sPar2, sPar3, dIsBl, dNotBl, dBM, dBM0, dEq, dNe, dIn, dSgn, dIsiT2, isAny, dLenSet, dLstL, dOfE, dIxL, dCon, fLen, fTup, fSum, fMax, fMin, fAll, fAny, dEqLL, dNeLL, dLenSetL, dRefL, sTryN, exByN, goneD, withD, dXf, sRaiseF, dLc2, dEnum, dListRg1, dListRg2, dTupRg1, dTupRg2, dStrOf1, dRep, dLenSet, dstart, fnE_nx, fnE_rt, fnE_ex, Nat.zero_le, Nat.reduceLeDiff, decide_true, decide_false, true_or, or_true, false_or, or_false, decide_eq_true_eq, exists_eq_left', exists_eq_left, exists_eq_right, exists_eq_right', Option.some.injEq, List.cons.injEq, D.int.injEq, D.bl.injEq, D.str.injEq, D.tup.injEq, D.lro.injEq, D.ref.injEq, DO.lst.injEq, and_true, true_and, and_false, false_and, exists_false, exists_const, List.getElem?_cons_zero, List.getElem?_cons_succ, List.map_cons, List.map_nil, List.length_cons, List.length_nil, List.replicate_zero, List.replicate_succ, List.append_nil, List.cons_append, List.nil_append, List.set_cons_zero, List.set_cons_succ, Nat.reduceAdd, Nat.reduceSub, Nat.zero_add, reduceIte, Bool.false_eq_true, reduceCtorEq, if_true, if_false, Bool.not_true, Bool.not_false, exists_and_left]
    by_cases h : i ≤ x
    · rw [if_pos h]
      simpa [wthn, h] using q'
    · rw [if_neg h]
      simpa [wthn, h] using q'
  | _ => simpa [isInt, wthn] using q'
theorem wthn_int {d : D} {i j : Int} (h : wthn d i j = true) : ∃ x, d = .int x ∧ i ≤ x ∧ x ≤ j := by
  cases d with
  | int x => exact ⟨x, rfl, of_decide_eq_true h⟩
  | _ => cases h
def isRow (d : D) (i j : Int) : Bool := match d with
  | .tup xs => decide (i ≤ xs.length ∧ xs.length ≤ j)
  | _ => false
theorem isRow_tup {d : D} {i j : Int} (h : isRow d i j = true) : ∃ xs, d = .tup xs ∧ i ≤ xs.length ∧ xs.length ≤ j := by
  cases d with
  | tup xs => exact ⟨xs, rfl, of_decide_eq_true h⟩
  | _ => cases h
def sp_is_row : SpD := fun ds L Q _ => ∃ d i j, ds = [d, .int i, .int j] ∧ Known L d ∧ Q (.bl (isRow d i j)) L
theorem len_is_row : ∀ as L Q E, sp_is_row as L Q E → as.length = 3 := by rintro _ L Q E ⟨d, i, j, rfl, _⟩; rfl
def d_is_row : DS :=
  (sRet (dAndV (dIsi .tup (dVar 0)) (dChain dLe dLe (dVar 1) (dCB dLen (dCons (dVar 0) dNil)) (dVar 2))))

theorem pure_is_row : ∀ as L Q E, sp_is_row as L Q E → d_is_row (fnEnds Q E) (dstart 3 as) L := by
  rintro as L Q E ⟨d, i, j, rfl, hk, q⟩
  have q' := endOf q
  cases d with
  | ref a =>
    obtain ⟨xs, hk⟩ := hk
    simp only [d_is_row, hk, dVar, dC, dOp, dUn, dNil, dCons, dTup, dLst, dCB, dTest, dAnd, dOr, dNot, dAndV, dOrV, dNotV, dIfE, dChain, sNext, sSeq, sBreak, sCont, sDrop, sRet, sRetN, sIf, gdName, gdNil, gdCons, gdTup, gdSub, sAsg, dCall, xOf, sFor, dSeq, dRng1, dRng2, dI, dI0, dB0, dAdd, dIsN, dNotN, isNon, dIx, dSetL, dNeg, one, two, dLen1, dListOf1, dTupOf1, dAbs1, dIntOf1, dII, marg, dAppend1, dExtend1, dIsi, isA, dSl, dPart, dNoPart, dCut, dLc, dYes, sRaise, sTry, exBy, sPar2, sPar3, dIsBl, dNotBl, dBM, dBM0, dEq, dNe, dIn, dSgn, dIsiT2, isAny, dLenSet, dLstL, dOfE, dIxL, dCon, fLen, fTup, fSum, fMax, fMin, fAll, fAny, dEqLL, dNeLL, dLenSetL, dRefL, sTryN, exByN, goneD, withD, dXf, sRaiseF, dLc2, dEnum, dListRg1, dListRg2, dTupRg1, dTupRg2, dStrOf1, dRep, dLenSet, dstart, fnE_nx, fnE_rt, fnE_ex, Nat.zero_le, Nat.reduceLeDiff, decide_true, decide_false, true_or, or_true, false_or, or_false, decide_eq_true_eq, exists_eq_left', exists_eq_left, exists_eq_right, exists_eq_right', Option.some.injEq, List.cons.injEq, D.int.injEq, D.bl.injEq, D.str.injEq, D.tup.injEq, D.lro.injEq, D.ref.injEq, DO.lst.injEq, and_true, true_and, and_false, false_and, exists_false, exists_const, List.getElem?_cons_zero, List.getElem?_cons_succ, List.map_cons, List.map_nil, List.length_cons, List.length_nil, List.replicate_zero, List.replicate_succ, List.append_nil, List.cons_append, List.nil_append, List.set_cons_zero, List.set_cons_succ, Nat.reduceAdd, Nat.reduceSub, Nat.zero_add, reduceIte, Bool.false_eq_true, reduceCtorEq, if_true, if_false, Bool.not_true, Bool.not_false, exists_and_left]
    exact q'
  | tup xs =>
    simp only [d_is_row, dVar, dC, dOp, dUn, dNil, dCons, dTup, dLst, dCB, dTest, dAnd, dOr, dNot, dAndV, dOrV, dNotV, dIfE, dChain, sNext, sSeq, sBreak, sCont, sDrop, sRet, sRetN, sIf, gdName, gdNil, gdCons, gdTup, gdSub, sAsg, dCall, xOf, sFor, dSeq, dRng1, dRng2, dI, dI0, dB0, dAdd, dIsN, dNotN, isNon, dIx, dSetL, dNeg, one, two, dLen1, dListOf1, dTupOf1, dAbs1, dIntOf1, dII, marg, dAppend1, dExtend1, dIsi, isA, dSl, dPart, dNoPart, dCut, dLc, dYes, sRaise, sTry, exBy, sPar2, sPar3, dIsBl, dNotBl, dBM, dBM0, dEq, dNe, dIn, dSgn, dIsiT2, isAny, dLenSet, dLstL, dOfE, dIxL, dCon, fLen, fTup, fSum, fMax, fMin, fAll, fAny, dEqLL, dNeLL, dLenSetL, dRefL, sTryN, exByN, goneD, withD, dXf, sRaiseF, dLc2, dEnum, dListRg1, dListRg2, dTupRg1, dTupRg2, dStrOf1, dRep, dLenSet, dstart, fnE_nx, fnE_rt, fnE_ex, Nat.zero_le, Nat.reduceLeDiff, decide_true, decide_false, true_or, or_true, false_or, or_false, decide_eq_true_eq, exists_eq_left', exists_eq_left, exists_eq_right, exists_eq_right', Option.some.injEq, List.cons.injEq, D.int.injEq, D.bl.injEq, D.str.injEq, D.tup.injEq, D.lro.injEq, D.ref.injEq, DO.lst.injEq, and_true, true_and, and_false, false_and, exists_false, exists_const, List.getElem?_cons_zero, List.getElem?_cons_succ, List.map_cons, List.map_nil, List.length_cons, List.length_nil, List.replicate_zero, List.replicate_succ, List.append_nil, List.cons_append, List.nil_append, List.set_cons_zero, List.set_cons_succ, Nat.reduceAdd, Nat.reduceSub, Nat.zero_add, reduceIte, Bool.false_eq_true, reduceCtorEq, if_true, if_false, Bool.not_true, Bool.not_false, exists_and_left]
    by_cases h : i ≤ xs.length
    · rw [if_pos h]
      simpa [isRow, h] using q'
    · rw [if_neg h]
      simpa [isRow, h] using q'
  | exc _ _ _ _ _ => exact hk.elim
  | _ =>
    simp only [d_is_row, dVar, dC, dOp, dUn, dNil, dCons, dTup, dLst, dCB, dTest, dAnd, dOr, dNot, dAndV, dOrV, dNotV, dIfE, dChain, sNext, sSeq, sBreak, sCont, sDrop, sRet, sRetN, sIf, gdName, gdNil, gdCons, gdTup, gdSub, sAsg, dCall, xOf, sFor, dSeq, dRng1, dRng2, dI, dI0, dB0, dAdd, dIsN, dNotN, isNon, dIx, dSetL, dNeg, one, two, dLen1, dListOf1, dTupOf1, dAbs1, dIntOf1, dII, marg, dAppend1, dExtend1, dIsi, isA, dSl, dPart, dNoPart, dCut, dLc, dYes, sRaise, sTry, exBy, sPar2, sPar3, dIsBl, dNotBl, dBM, dBM0, dEq, dNe, dIn, dSgn, dIsiT2, isAny, dLenSet, dLstL, dOfE, dIxL, dCon, fLen, fTup, fSum, fMax, fMin, fAll, fAny, dEqLL, dNeLL, dLenSetL, dRefL, sTryN, exByN, goneD, withD, dXf, sRaiseF, dLc2, dEnum, dListRg1, dListRg2, dTupRg1, dTupRg2, dStrOf1, dRep, dLenSet, dstart, fnE_nx, fnE_rt, fnE_ex, Nat.zero_le, Nat.reduceLeDiff, decide_true, decide_false, true_or, or_true, false_or, or_false, decide_eq_true_eq, exists_eq_left', exists_eq_left, exists_eq_right, exists_eq_right', Option.some.injEq, List.cons.injEq, D.int.injEq, D.bl.injEq, D.str.injEq, D.tup.injEq, D.lro.injEq, D.ref.injEq, DO.lst.injEq, and_true, true_and, and_false, false_and, exists_false, exists_const, List.getElem?_cons_zero, List.getElem?_cons_succ, List.map_cons, List.map_nil, List.length_cons, List.length_nil, List.replicate_zero, List.replicate_succ, List.append_nil, List.cons_append, List.nil_append, List.set_cons_zero, List.set_cons_succ, Nat.reduceAdd, Nat.reduceSub, Nat.zero_add, reduceIte, Bool.false_eq_true, reduceCtorEq, if_true, if_false, Bool.not_true, Bool.not_false, exists_and_left]
    exact q'
abbrev Pl (n : Nat) (d : D) : Prop := Tame (fun _ => none) n d
def intV : D → Int
  | .int x => x
  | _ => 0
def tupV : D → List D
  | .tup xs => xs
  | _ => []
theorem isRow_len {xs : List D} {n : Nat} : isRow (.tup xs) n n = decide (xs.length = n) := by
  show decide ((n : Int) ≤ xs.length ∧ (xs.length : Int) ≤ n) = _
  by_cases h : xs.length = n
  · rw [decide_eq_true h, decide_eq_true (by omega)]
  · rw [decide_eq_false h, decide_eq_false (by omega)]
theorem atI_ints' {ns : List Int} {i : Int} (h0 : 0 ≤ i) (h1 : i < ns.length) : atI (ns.map D.int) i = some (.int (ns.getD i.toNat 0)) := by
  have h : i.toNat < ns.length := by omega
  have q := atI_nat (xs := ns.map D.int) (j := i.toNat) (v := .int (ns.getD i.toNat 0)) (by
    rw [List.getElem?_map, List.getElem?_eq_getElem h, List.getD_eq_getElem?_getD, List.getElem?_eq_getElem h]; rfl)
  rwa [show ((i.toNat : Nat) : Int) = i by omega] at q
theorem str_len (z : Str) : z.length = z.cps.toList.length := rfl
theorem str_app (x y : Str) : (x ++ y).cps.toList = x.cps.toList ++ y.cps.toList := by
  show (x.cps ++ y.cps).toList = _
  simp
theorem big_m {m : Int} (h : m ≤ 1000000000) : m ≤ 10 ^ 60 := by
  have : (1000000000 : Int) ≤ 10 ^ 60 := by decide
  omega
theorem Pl.tm {n : Nat} {d : D} (h : Pl n d) (hn : n ≤ 30) (L : DH) : Tm L d := ⟨n, hn, h.le fun _ _ e => by cases e⟩
theorem pl_int {n : Nat} {i : Int} : Pl n (.int i) := by cases n <;> trivial
theorem pl_ints {n : Nat} {xs : List Int} (h : xs.length ≤ 16777216) : Pl (n + 1) (.tup (xs.map .int)) := ⟨by simpa using h, fun d hd => by
  obtain ⟨x, _, rfl⟩ := List.mem_map.mp hd
  exact pl_int⟩
theorem pl_str {n : Nat} {z : Str} (h : z.length ≤ 16777216) : Pl n (.str z) := by cases n <;> exact h
theorem pl_tup {n : Nat} {ds : List D} (h : ds.length ≤ 16777216) (h2 : ∀ d, d ∈ ds → Pl n d) : Pl (n + 1) (.tup ds) := ⟨h, h2⟩
theorem pl_3 {n : Nat} {a b c : D} (ha : Pl n a) (hb : Pl n b) (hc : Pl n c) : Pl (n + 1) (.tup [a, b, c]) := ⟨by simp, fun d hd => by
  simp only [List.mem_cons, List.not_mem_nil, or_false] at hd
  rcases hd with rfl | rfl | rfl
  · exact ha
  · exact hb
  · exact hc⟩
theorem pl_2 {n : Nat} {a b : D} (ha : Pl n a) (hb : Pl n b) : Pl (n + 1) (.tup [a, b]) := ⟨by simp, fun d hd => by
  simp only [List.mem_cons, List.not_mem_nil, or_false] at hd
  rcases hd with rfl | rfl
  · exact ha
  · exact hb⟩
theorem wthn_of {x i j : Int} (h1 : i ≤ x) (h2 : x ≤ j) : wthn (.int x) i j = true := decide_eq_true ⟨h1, h2⟩
theorem all_wthn {xs : List Int} {i j : Int} (h : ∀ x, x ∈ xs → i ≤ x ∧ x ≤ j) : ((xs.map D.int).all fun x => wthn x i j) = true := by
  rw [List.all_map, List.all_eq_true]
  exact fun x hx => wthn_of (h x hx).1 (h x hx).2
theorem map_intV (xs : List Int) : (xs.map D.int).map intV = xs := by
  rw [List.map_map]; exact List.map_id xs
def Ext (a : Addr) (L L' : DH) : Prop := ∀ c v, c ≠ a → L c = some v → L' c = some v
theorem Ext.refl {a : Addr} {L : DH} : Ext a L L := fun _ _ _ h => h
theorem Ext.bag {a : Addr} {L L' : DH} {o : DO} (h : Ext a L L') : Ext a L (upd L' a o) := fun c v n e => by rw [updD_ne n]; exact h c v n e
theorem Ext.new {a p : Addr} {L L' : DH} {o : DO} (h : Ext a L L') (hp : L' p = none) : Ext a L (upd L' p o) := fun c v n e => by
  have := h c v n e
  rw [updD_ne (fresh_ne this hp)]; exact this
theorem Ext.own {a u : Addr} {L L' : DH} {o : DO} (h : Ext a L L') (hu : L u = none) : Ext a L (upd L' u o) := fun c v n e => by
  rw [updD_ne (fresh_ne e hu)]; exact h c v n e
theorem cut_to {α : Type} {xs : List α} {i : Int} (h0 : 0 ≤ i) : cut xs none (some i) = xs.take i.toNat := by
  unfold cut
  have e1 : HT.sIx xs.length 0 none = 0 := rfl
  have e2 : HT.sIx xs.length xs.length (some i) = min i.toNat xs.length := by
    show (if i < 0 then (i + (xs.length : Int)).toNat else min i.toNat xs.length) = _
    rw [if_neg (by omega)]
  rw [e1, e2, Nat.sub_zero, List.drop_zero]
  rcases Nat.le_total i.toNat xs.length with h | h
  · rw [Nat.min_eq_left h]
  · rw [Nat.min_eq_right h, List.take_of_length_le (Nat.le_refl _), List.take_of_length_le h]
theorem cut_from {α : Type} {xs : List α} {i : Int} (h0 : 0 ≤ i) : cut xs (some i) none = xs.drop i.toNat := by
  unfold cut
  have e1 : HT.sIx xs.length xs.length none = xs.length := rfl
  have e2 : HT.sIx xs.length 0 (some i) = min i.toNat xs.length := by
    show (if i < 0 then (i + (xs.length : Int)).toNat else min i.toNat xs.length) = _
    rw [if_neg (by omega)]
  rw [e1, e2]
  rcases Nat.le_total i.toNat xs.length with h | h
  · rw [Nat.min_eq_left h, List.take_of_length_le (by simp)]
  · rw [Nat.min_eq_right h, List.drop_of_length_le (Nat.le_refl _), List.drop_of_length_le h]; simp
theorem Pl.pyn {L : DH} : ∀ {n : Nat} {d : D}, Pl n d → ∃ p, pyL L n d = some p := by
  intro n
  induction n with
  | zero =>
    intro d h
    cases d with
    | exc _ _ _ _ _ => exact (show False from h).elim
    | ref a => obtain ⟨p, e⟩ := h; cases e
    | lro a => exact h.elim
    | tup _ => exact h.elim
    | str z => exact ⟨_, pyL_str _ _⟩
    | non => exact ⟨_, pyL_non _⟩
    | bl b => exact ⟨_, pyL_bl _ _⟩
    | int i => exact ⟨_, pyL_int _ _⟩
  | succ n ih =>
    intro d h
    cases d with
    | exc _ _ _ _ _ => exact (show False from h).elim
    | ref a => obtain ⟨p, e⟩ := h; cases e
    | lro a => exact h.elim
    | tup ds =>
      obtain ⟨_, h⟩ := h
      have : ∀ ds : List D, (∀ d, d ∈ ds → Pl n d) → ∃ ps, optAll (pyL L n) ds = some ps := by
        intro ds
        induction ds with
        | nil => exact fun _ => ⟨[], rfl⟩
        | cons d ds ih2 =>
          intro h
          obtain ⟨p, e⟩ := ih (h d List.mem_cons_self)
          obtain ⟨ps, e2⟩ := ih2 fun d' hd => h d' (List.mem_cons_of_mem _ hd)
          exact ⟨p :: ps, by rw [optAll_cons', e, e2]; rfl⟩
      obtain ⟨ps, e⟩ := this ds h
      exact ⟨_, by rw [pyL_tup, e]; rfl⟩
    | str z => exact ⟨_, pyL_str _ _⟩
    | non => exact ⟨_, pyL_non _⟩
    | bl b => exact ⟨_, pyL_bl _ _⟩
    | int i => exact ⟨_, pyL_int _ _⟩
theorem tm_list {L : DH} {p : Addr} {n : Nat} {es : List D} (h : L p = some (.lst es)) (hp : Pl (n + 1) (.tup es)) (hn : n ≤ 29) : Tm L (.ref p) := by
  obtain ⟨q, e⟩ := hp.pyn (L := L)
  rw [pyL_tup] at e
  obtain ⟨ps, e1, _⟩ := Option.map_eq_some_iff.mp e
  have e2 : pyL L (n + 1) (.ref p) = some (.list ps) := by rw [pyL_ref n h, e1]; rfl
  exact ⟨0, by decide, ⟨_, pyL_mono (by omega) e2⟩⟩
theorem tame_list {L : DH} {p : Addr} {n : Nat} {es : List D} (h : L p = some (.lst es)) (hp : Pl (n + 1) (.tup es)) (hn : n ≤ 29) : Tame L 0 (.ref p) := by
  obtain ⟨k, _, ht⟩ := tm_list h hp hn
  cases k <;> exact ht
theorem tame_up {L : DH} {n m : Nat} {d : D} (h : Tame L n d) (hm : n ≤ m) : Tame L m d := by
  induction m with
  | zero => cases Nat.le_zero.mp hm; exact h
  | succ m ih =>
    rcases Nat.lt_or_ge n (m + 1) with g | g
    · exact (ih (by omega)).up
    · have : n = m + 1 := by omega
      subst this; exact h
theorem Pl.tame {n : Nat} {d : D} (h : Pl n d) (L : DH) : Tame L n d := h.le fun _ _ e => by cases e
theorem tm_tup {L : DH} {ds : List D} {n : Nat} (hn : n ≤ 29) (hl : ds.length ≤ 16777216) (h : ∀ d, d ∈ ds → Tame L n d) : Tm L (.tup ds) := ⟨n + 1, by omega, hl, h⟩
theorem log_small {i : Int} (h : i.natAbs < 2 ^ 20) : i.natAbs.log2 < 1920 := by
  rcases Nat.eq_zero_or_pos i.natAbs with h0 | h0
  · rw [h0]; decide
  · have := (Nat.log2_lt (n := i.natAbs) (k := 20) (by omega)).mpr h
    omega
theorem eqD_self {L : DH} {d : D} {n : Nat} (h : Pl n d) (ht : ∀ xs, d ≠ .tup xs) : eqD L d d = some true := by
  cases d with
  | non => rw [eqD_of (pyL_non _) (pyL_non _)]; rfl
  | bl b => rw [eqD_of (pyL_bl _ _) (pyL_bl _ _)]; cases b <;> rfl
  | int i => rw [eqD_int]; simp
  | str z => rw [eqD_str]; simp
  | tup xs => exact absurd rfl (ht xs)
  | lro xs => cases n <;> exact h.elim
  | ref a => cases n <;> (obtain ⟨p, e⟩ := h; cases e)
  | exc _ _ _ _ _ => cases n <;> exact h.elim
theorem eqD_bl {L : DH} (a b : Bool) : eqD L (.bl a) (.bl b) = some (a == b) := by
  rw [eqD_of (pyL_bl _ _) (pyL_bl _ _)]; cases a <;> cases b <;> rfl
theorem eq_nils {L : DH} {p q : Addr} (hp : L p = some (.lst [])) (hq : L q = some (.lst [])) : eqD L (.ref p) (.ref q) = some true := by
  rw [eqD_of (by rw [show (60 : Nat) = 59 + 1 from rfl, pyL_ref _ hp]; rfl) (by rw [show (60 : Nat) = 59 + 1 from rfl, pyL_ref _ hq]; rfl)]
  rfl
theorem wthn_no {x i j : Int} (h : x < i ∨ j < x) : wthn (.int x) i j = false := decide_eq_false (by omega)
theorem row3 {d : D} (h : isRow d 3 3 = true) : ∃ a b c, d = .tup [a, b, c] := by
  obtain ⟨xs, rfl, h1, h2⟩ := isRow_tup h
  match xs, h1, h2 with
  | [], h1, _ => simp at h1
  | [a], h1, _ => simp at h1
  | [a, b], h1, _ => simp at h1
  | [a, b, c], _, _ => exact ⟨a, b, c, rfl⟩
  | a :: b :: c :: d :: r, _, h2 => simp at h2; omega
theorem row2 {d : D} (h : isRow d 2 2 = true) : ∃ a b, d = .tup [a, b] := by
  obtain ⟨xs, rfl, h1, h2⟩ := isRow_tup h
  match xs, h1, h2 with
  | [], h1, _ => simp at h1
  | [a], h1, _ => simp at h1
  | [a, b], _, _ => exact ⟨a, b, rfl⟩
  | a :: b :: c :: r, _, h2 => simp at h2; omega
theorem keys_strs (zs : List Str) : optAll keyD (zs.map D.str) = some (zs.map Sum.inr) := optAll_map (f := keyD) (h := D.str) (k := fun z => (Sum.inr z : Key)) (fun c => rfl) zs
theorem nodup_inr (zs : List Str) : (zs.map (Sum.inr : Str → Key)).Nodup ↔ zs.Nodup := by
  unfold List.Nodup
  rw [List.pairwise_map]
  simp
theorem keys_ints (zs : List Int) : optAll keyD (zs.map D.int) = some (zs.map Sum.inl) := optAll_map (f := keyD) (h := D.int) (k := fun z => (Sum.inl z : Key)) (fun c => rfl) zs
theorem nodup_inl (zs : List Int) : (zs.map (Sum.inl : Int → Key)).Nodup ↔ zs.Nodup := by
  unfold List.Nodup
  rw [List.pairwise_map]
  simp
theorem ints_of {xs : List D} {i j : Int} (h : (xs.all fun x => wthn x i j) = true) : xs = (xs.map intV).map D.int := by
  rw [List.map_map]
  conv => lhs; rw [← List.map_id xs]
  refine List.map_congr_left fun x hx => ?_
  obtain ⟨y, rfl, _⟩ := wthn_int (List.all_eq_true.mp h x hx)
  rfl
theorem liftSp_no {M : KM} {sp : SpD} (hno : ∀ as L Q E, sp as L Q E → False) {vs : List V} {H : Hp} {Q : VK} {E : XK} (h : liftSp M sp vs H Q E) : False :=
  let ⟨as, L, Qd, Ed, _, _, h, _⟩ := h; hno as L Qd Ed h
end D2

set_option Elab.async false
set_option linter.all false
set_option maxRecDepth 100000
set_option maxHeartbeats 1000000
namespace D2
open PySem PySem.Spec PyProof.Rows L2
/-! ### games -/
def ownD : D → Int
  | .tup (.int o :: _) => o
  | _ => 0
def mkD : D → Int
  | .tup (_ :: .int m :: _) => m
  | _ => 0
def nxD : D → List Int
  | .tup (_ :: _ :: .tup ns :: _) => ns.map intV
  | _ => []
def isPos (d : D) (many : Int) : Bool := match d with
  | .tup [o, m, ns] => wthn o 0 1 && isInt m && decide (0 ≤ intV m) && isRow ns 1 1002 && ((tupV ns).all fun x => wthn x 0 (many - 1)) && decide ((tupV ns).map intV).Nodup
  | _ => false
theorem len3 {xs : List D} (h : xs.length = 3) : ∃ a b c, xs = [a, b, c] := by
  match xs, h with
  | [a, b, c], _ => exact ⟨a, b, c, rfl⟩
theorem isPos_len {xs : List D} {many : Int} (h : xs.length ≠ 3) : isPos (.tup xs) many = false := by
  unfold isPos
  split
  · rename_i e
    cases e
    exact absurd rfl h
  · rfl
def sp_is_position : SpD := fun ds L Q _ => ∃ d many, ds = [d, .int many] ∧ Tm L d ∧ Q (.bl (isPos d many)) L
theorem len_is_position : ∀ as L Q E, sp_is_position as L Q E → as.length = 2 := by rintro _ L Q E ⟨d, m, rfl, _⟩; rfl
def d_is_position_t4 : DS :=
  (sRet (dAndV (dCon fAll (dOfE (dLc (dSeq (dVar 4)) (gdName 5) dYes (dCall sp_within (dCons (dVar 5) (dCons (dC (.int 0)) (dCons (dOp dSub (dVar 1) (dC (.int 1))) dNil)))) [5]))) (dOp dEq (dLenSet (dVar 4)) (dCB dLen (dCons (dVar 4) dNil)))))
def d_is_position_t3 : DS :=
  (sSeq (sIf (dOr (dNot (dTest (dIsi .tup (dVar 4)))) (dNot (dTest (dChain dLe dLe (dC (.int 1)) (dCB dLen (dCons (dVar 4) dNil)) (dC (.int 1002)))))) (sRet (dC (.bl false))) sNext) d_is_position_t4)
def d_is_position_t2 : DS :=
  (sSeq (sIf (dOr (dNot (dTest (dCall sp_within (dCons (dVar 2) (dCons (dC (.int 0)) (dCons (dC (.int 1)) dNil)))))) (dOr (dNot (dTest (dCall sp_is_int (dCons (dVar 3) dNil)))) (dTest (dOp dLt (dVar 3) (dC (.int 0)))))) (sRet (dC (.bl false))) sNext) d_is_position_t3)
def d_is_position_t1 : DS :=
  (sSeq (sAsg (dVar 0) (gdTup 3 (gdCons (gdName 2) (gdCons (gdName 3) (gdCons (gdName 4) gdNil))))) d_is_position_t2)
def d_is_position : DS :=
  (sSeq (sIf (dOr (dNot (dTest (dIsi .tup (dVar 0)))) (dTest (dOp dNe (dCB dLen (dCons (dVar 0) dNil)) (dC (.int 3))))) (sRet (dC (.bl false))) sNext) d_is_position_t1)

theorem pure_is_position : ∀ as L Q E, sp_is_position as L Q E → d_is_position (fnEnds Q E) (dstart 6 as) L := by
  rintro as L Q E ⟨d, many, rfl, hk, q⟩
  have q' := endOf q
  have hkn := hk.known
  cases d with
  | exc _ _ _ _ _ => exact hkn.elim
  | ref a =>
    obtain ⟨xs, h⟩ := hkn
    simp only [d_is_position, d_is_position_t4, d_is_position_t3, d_is_position_t2, d_is_position_t1, h, dVar, dC, dOp, dUn, dNil, dCons, dTup, dLst, dCB, dTest, dAnd, dOr, dNot, dAndV, dOrV, dNotV, dIfE, dChain, sNext, sSeq, sBreak, sCont, sDrop, sRet, sRetN, sIf, gdName, gdNil, gdCons, gdTup, gdSub, sAsg, dCall, xOf, sFor, dSeq, dRng1, dRng2, dI, dI0, dB0, dAdd, dIsN, dNotN, isNon, dIx, dSetL, dNeg, one, two, dLen1, dListOf1, dTupOf1, dAbs1, dIntOf1, dII, marg, dAppend1, dExtend1, dIsi, isA, dSl, dPart, dNoPart, dCut, dLc, dYes, sRaise, sTry, exBy, sPar2, sPar3, dIsBl, dNotBl, dBM, dBM0, dEq, dNe, dIn, dSgn, dIsiT2, isAny, dLenSet, dLstL, dOfE, dIxL, dCon, fLen, fTup, fSum, fMax, fMin, fAll, fAny, dEqLL, dNeLL, dLenSetL, dRefL, sTryN, exByN, goneD, withD, dXf, sRaiseF, dLc2, dEnum, dListRg1, dListRg2, dTupRg1, dTupRg2, dStrOf1, dRep, dstart, fnE_nx, fnE_rt, fnE_ex, Nat.zero_le, Nat.reduceLeDiff, decide_true, decide_false, true_or, or_true, false_or, or_false, decide_eq_true_eq, exists_eq_left', exists_eq_left, exists_eq_right, exists_eq_right', Option.some.injEq, List.cons.injEq, D.int.injEq, D.bl.injEq, D.str.injEq, D.tup.injEq, D.lro.injEq, D.ref.injEq, DO.lst.injEq, and_true, true_and, and_false, false_and, exists_false, exists_const, List.getElem?_cons_zero, List.getElem?_cons_succ, List.map_cons, List.map_nil, List.length_cons, List.length_nil, List.replicate_zero, List.replicate_succ, List.append_nil, List.cons_append, List.nil_append, List.set_cons_zero, List.set_cons_succ, Nat.reduceAdd, Nat.reduceSub, Nat.zero_add, reduceIte, Bool.false_eq_true, reduceCtorEq, if_true, if_false, Bool.not_true, Bool.not_false, exists_and_left, Bool.true_xor, Bool.false_xor]
    exact q'
  | tup xs =>
    by_cases h3 : xs.length = 3
    · obtain ⟨o, m, ns, rfl⟩ := len3 h3
      have ho : Tm L o := hk.mem (by simp)
      have hm : Tm L m := hk.mem (by simp)
      have hn : Tm L ns := hk.mem (by simp)
      have e0 : isPos (.tup [o, m, ns]) many = (wthn o 0 1 && isInt m && decide (0 ≤ intV m) && isRow ns 1 1002 && ((tupV ns).all fun x => wthn x 0 (many - 1)) && decide ((tupV ns).map intV).Nodup) := rfl
      rw [e0] at q'
      simp only [d_is_position, dVar, dC, dOp, dUn, dNil, dCons, dTup, dLst, dCB, dTest, dAnd, dOr, dNot, dAndV, dOrV, dNotV, dIfE, dChain, sNext, sSeq, sBreak, sCont, sDrop, sRet, sRetN, sIf, gdName, gdNil, gdCons, gdTup, gdSub, sAsg, dCall, xOf, sFor, dSeq, dRng1, dRng2, dI, dI0, dB0, dAdd, dIsN, dNotN, isNon, dIx, dSetL, dNeg, one, two, dLen1, dListOf1, dTupOf1, dAbs1, dIntOf1, dII, marg, dAppend1, dExtend1, dIsi, isA, dSl, dPart, dNoPart, dCut, dLc, dYes, sRaise, sTry, exBy, sPar2, sPar3, dIsBl, dNotBl, dBM, dBM0, dEq, dNe, dIn, dSgn, dIsiT2, isAny, dLenSet, dLstL, dOfE, dIxL, dCon, fLen, fTup, fSum, fMax, fMin, fAll, fAny, dEqLL, dNeLL, dLenSetL, dRefL, sTryN, exByN, goneD, withD, dXf, sRaiseF, dLc2, dEnum, dListRg1, dListRg2, dTupRg1, dTupRg2, dStrOf1, dRep, dstart, fnE_nx, fnE_rt, fnE_ex, Nat.zero_le, Nat.reduceLeDiff, decide_true, decide_false, true_or, or_true, false_or, or_false, decide_eq_true_eq, exists_eq_left', exists_eq_left, exists_eq_right, exists_eq_right', Option.some.injEq, List.cons.injEq, D.int.injEq, D.bl.injEq, D.str.injEq, D.tup.injEq, D.lro.injEq, D.ref.injEq, DO.lst.injEq, and_true, true_and, and_false, false_and, exists_false, exists_const, List.getElem?_cons_zero, List.getElem?_cons_succ, List.map_cons, List.map_nil, List.length_cons, List.length_nil, List.replicate_zero, List.replicate_succ, List.append_nil, List.cons_append, List.nil_append, List.set_cons_zero, List.set_cons_succ, Nat.reduceAdd, Nat.reduceSub, Nat.zero_add, reduceIte, Bool.false_eq_true, reduceCtorEq, if_true, if_false, Bool.not_true, Bool.not_false, exists_and_left, Bool.true_xor, Bool.false_xor, eqD_int]
      rw [if_neg (by decide)]
      simp only [d_is_position_t1, d_is_position_t2, dVar, dC, dOp, dUn, dNil, dCons, dTup, dLst, dCB, dTest, dAnd, dOr, dNot, dAndV, dOrV, dNotV, dIfE, dChain, sNext, sSeq, sBreak, sCont, sDrop, sRet, sRetN, sIf, gdName, gdNil, gdCons, gdTup, gdSub, sAsg, dCall, xOf, sFor, dSeq, dRng1, dRng2, dI, dI0, dB0, dAdd, dIsN, dNotN, isNon, dIx, dSetL, dNeg, one, two, dLen1, dListOf1, dTupOf1, dAbs1, dIntOf1, dII, marg, dAppend1, dExtend1, dIsi, isA, dSl, dPart, dNoPart, dCut, dLc, dYes, sRaise, sTry, exBy, sPar2, sPar3, dIsBl, dNotBl, dBM, dBM0, dEq, dNe, dIn, dSgn, dIsiT2, isAny, dLenSet, dLstL, dOfE, dIxL, dCon, fLen, fTup, fSum, fMax, fMin, fAll, fAny, dEqLL, dNeLL, dLenSetL, dRefL, sTryN, exByN, goneD, withD, dXf, sRaiseF, dLc2, dEnum, dListRg1, dListRg2, dTupRg1, dTupRg2, dStrOf1, dRep, dstart, fnE_nx, fnE_rt, fnE_ex, Nat.zero_le, Nat.reduceLeDiff, decide_true, decide_false, true_or, or_true, false_or, or_false, decide_eq_true_eq, exists_eq_left', exists_eq_left, exists_eq_right, exists_eq_right', Option.some.injEq, List.cons.injEq, D.int.injEq, D.bl.injEq, D.str.injEq, D.tup.injEq, D.lro.injEq, D.ref.injEq, DO.lst.injEq, and_true, true_and, and_false, false_and, exists_false, exists_const, List.getElem?_cons_zero, List.getElem?_cons_succ, List.map_cons, List.map_nil, List.length_cons, List.length_nil, List.replicate_zero, List.replicate_succ, List.append_nil, List.cons_append, List.nil_append, List.set_cons_zero, List.set_cons_succ, Nat.reduceAdd, Nat.reduceSub, Nat.zero_add, reduceIte, Bool.false_eq_true, reduceCtorEq, if_true, if_false, Bool.not_true, Bool.not_false, exists_and_left, Bool.true_xor, Bool.false_xor]
      refine ⟨o, 0, 1, rfl, ho.known, ?_⟩
      cases h1 : wthn o 0 1 with
      | false => rw [h1] at q'; simpa using q'
      | true =>
      rw [h1] at q'
      simp only [dVar, dC, dOp, dUn, dNil, dCons, dTup, dLst, dCB, dTest, dAnd, dOr, dNot, dAndV, dOrV, dNotV, dIfE, dChain, sNext, sSeq, sBreak, sCont, sDrop, sRet, sRetN, sIf, gdName, gdNil, gdCons, gdTup, gdSub, sAsg, dCall, xOf, sFor, dSeq, dRng1, dRng2, dI, dI0, dB0, dAdd, dIsN, dNotN, isNon, dIx, dSetL, dNeg, one, two, dLen1, dListOf1, dTupOf1, dAbs1, dIntOf1, dII, marg, dAppend1, dExtend1, dIsi, isA, dSl, dPart, dNoPart, dCut, dLc, dYes, sRaise, sTry, exBy, sPar2, sPar3, dIsBl, dNotBl, dBM, dBM0, dEq, dNe, dIn, dSgn, dIsiT2, isAny, dLenSet, dLstL, dOfE, dIxL, dCon, fLen, fTup, fSum, fMax, fMin, fAll, fAny, dEqLL, dNeLL, dLenSetL, dRefL, sTryN, exByN, goneD, withD, dXf, sRaiseF, dLc2, dEnum, dListRg1, dListRg2, dTupRg1, dTupRg2, dStrOf1, dRep, dstart, fnE_nx, fnE_rt, fnE_ex, Nat.zero_le, Nat.reduceLeDiff, decide_true, decide_false, true_or, or_true, false_or, or_false, decide_eq_true_eq, exists_eq_left', exists_eq_left, exists_eq_right, exists_eq_right', Option.some.injEq, List.cons.injEq, D.int.injEq, D.bl.injEq, D.str.injEq, D.tup.injEq, D.lro.injEq, D.ref.injEq, DO.lst.injEq, and_true, true_and, and_false, false_and, exists_false, exists_const, List.getElem?_cons_zero, List.getElem?_cons_succ, List.map_cons, List.map_nil, List.length_cons, List.length_nil, List.replicate_zero, List.replicate_succ, List.append_nil, List.cons_append, List.nil_append, List.set_cons_zero, List.set_cons_succ, Nat.reduceAdd, Nat.reduceSub, Nat.zero_add, reduceIte, Bool.false_eq_true, reduceCtorEq, if_true, if_false, Bool.not_true, Bool.not_false, exists_and_left, Bool.true_xor, Bool.false_xor]
      refine ⟨m, rfl, hm.known, ?_⟩
      cases m with
      | int mi =>
        have e1 : isInt (.int mi) = true := rfl
        have e2 : intV (.int mi) = mi := rfl
        rw [e1, e2] at q'
        simp only [e1, dVar, dC, dOp, dUn, dNil, dCons, dTup, dLst, dCB, dTest, dAnd, dOr, dNot, dAndV, dOrV, dNotV, dIfE, dChain, sNext, sSeq, sBreak, sCont, sDrop, sRet, sRetN, sIf, gdName, gdNil, gdCons, gdTup, gdSub, sAsg, dCall, xOf, sFor, dSeq, dRng1, dRng2, dI, dI0, dB0, dAdd, dIsN, dNotN, isNon, dIx, dSetL, dNeg, one, two, dLen1, dListOf1, dTupOf1, dAbs1, dIntOf1, dII, marg, dAppend1, dExtend1, dIsi, isA, dSl, dPart, dNoPart, dCut, dLc, dYes, sRaise, sTry, exBy, sPar2, sPar3, dIsBl, dNotBl, dBM, dBM0, dEq, dNe, dIn, dSgn, dIsiT2, isAny, dLenSet, dLstL, dOfE, dIxL, dCon, fLen, fTup, fSum, fMax, fMin, fAll, fAny, dEqLL, dNeLL, dLenSetL, dRefL, sTryN, exByN, goneD, withD, dXf, sRaiseF, dLc2, dEnum, dListRg1, dListRg2, dTupRg1, dTupRg2, dStrOf1, dRep, dstart, fnE_nx, fnE_rt, fnE_ex, Nat.zero_le, Nat.reduceLeDiff, decide_true, decide_false, true_or, or_true, false_or, or_false, decide_eq_true_eq, exists_eq_left', exists_eq_left, exists_eq_right, exists_eq_right', Option.some.injEq, List.cons.injEq, D.int.injEq, D.bl.injEq, D.str.injEq, D.tup.injEq, D.lro.injEq, D.ref.injEq, DO.lst.injEq, and_true, true_and, and_false, false_and, exists_false, exists_const, List.getElem?_cons_zero, List.getElem?_cons_succ, List.map_cons, List.map_nil, List.length_cons, List.length_nil, List.replicate_zero, List.replicate_succ, List.append_nil, List.cons_append, List.nil_append, List.set_cons_zero, List.set_cons_succ, Nat.reduceAdd, Nat.reduceSub, Nat.zero_add, reduceIte, Bool.false_eq_true, reduceCtorEq, if_true, if_false, Bool.not_true, Bool.not_false, exists_and_left, Bool.true_xor, Bool.false_xor]
        by_cases h2 : mi < 0
        · rw [if_pos h2]
          rw [decide_eq_false (by omega)] at q'
          simpa using q'
        rw [if_neg h2]
        rw [decide_eq_true (show (0 : Int) ≤ mi by omega)] at q'
        simp only [d_is_position_t3, dVar, dC, dOp, dUn, dNil, dCons, dTup, dLst, dCB, dTest, dAnd, dOr, dNot, dAndV, dOrV, dNotV, dIfE, dChain, sNext, sSeq, sBreak, sCont, sDrop, sRet, sRetN, sIf, gdName, gdNil, gdCons, gdTup, gdSub, sAsg, dCall, xOf, sFor, dSeq, dRng1, dRng2, dI, dI0, dB0, dAdd, dIsN, dNotN, isNon, dIx, dSetL, dNeg, one, two, dLen1, dListOf1, dTupOf1, dAbs1, dIntOf1, dII, marg, dAppend1, dExtend1, dIsi, isA, dSl, dPart, dNoPart, dCut, dLc, dYes, sRaise, sTry, exBy, sPar2, sPar3, dIsBl, dNotBl, dBM, dBM0, dEq, dNe, dIn, dSgn, dIsiT2, isAny, dLenSet, dLstL, dOfE, dIxL, dCon, fLen, fTup, fSum, fMax, fMin, fAll, fAny, dEqLL, dNeLL, dLenSetL, dRefL, sTryN, exByN, goneD, withD, dXf, sRaiseF, dLc2, dEnum, dListRg1, dListRg2, dTupRg1, dTupRg2, dStrOf1, dRep, dstart, fnE_nx, fnE_rt, fnE_ex, Nat.zero_le, Nat.reduceLeDiff, decide_true, decide_false, true_or, or_true, false_or, or_false, decide_eq_true_eq, exists_eq_left', exists_eq_left, exists_eq_right, exists_eq_right', Option.some.injEq, List.cons.injEq, D.int.injEq, D.bl.injEq, D.str.injEq, D.tup.injEq, D.lro.injEq, D.ref.injEq, DO.lst.injEq, and_true, true_and, and_false, false_and, exists_false, exists_const, List.getElem?_cons_zero, List.getElem?_cons_succ, List.map_cons, List.map_nil, List.length_cons, List.length_nil, List.replicate_zero, List.replicate_succ, List.append_nil, List.cons_append, List.nil_append, List.set_cons_zero, List.set_cons_succ, Nat.reduceAdd, Nat.reduceSub, Nat.zero_add, reduceIte, Bool.false_eq_true, reduceCtorEq, if_true, if_false, Bool.not_true, Bool.not_false, exists_and_left, Bool.true_xor, Bool.false_xor]
        cases ns with
        | exc _ _ _ _ _ => exact hn.known.elim
        | ref a =>
          obtain ⟨xs, h⟩ := hn.known
          simp only [h, dVar, dC, dOp, dUn, dNil, dCons, dTup, dLst, dCB, dTest, dAnd, dOr, dNot, dAndV, dOrV, dNotV, dIfE, dChain, sNext, sSeq, sBreak, sCont, sDrop, sRet, sRetN, sIf, gdName, gdNil, gdCons, gdTup, gdSub, sAsg, dCall, xOf, sFor, dSeq, dRng1, dRng2, dI, dI0, dB0, dAdd, dIsN, dNotN, isNon, dIx, dSetL, dNeg, one, two, dLen1, dListOf1, dTupOf1, dAbs1, dIntOf1, dII, marg, dAppend1, dExtend1, dIsi, isA, dSl, dPart, dNoPart, dCut, dLc, dYes, sRaise, sTry, exBy, sPar2, sPar3, dIsBl, dNotBl, dBM, dBM0, dEq, dNe, dIn, dSgn, dIsiT2, isAny, dLenSet, dLstL, dOfE, dIxL, dCon, fLen, fTup, fSum, fMax, fMin, fAll, fAny, dEqLL, dNeLL, dLenSetL, dRefL, sTryN, exByN, goneD, withD, dXf, sRaiseF, dLc2, dEnum, dListRg1, dListRg2, dTupRg1, dTupRg2, dStrOf1, dRep, dstart, fnE_nx, fnE_rt, fnE_ex, Nat.zero_le, Nat.reduceLeDiff, decide_true, decide_false, true_or, or_true, false_or, or_false, decide_eq_true_eq, exists_eq_left', exists_eq_left, exists_eq_right, exists_eq_right', Option.some.injEq, List.cons.injEq, D.int.injEq, D.bl.injEq, D.str.injEq, D.tup.injEq, D.lro.injEq, D.ref.injEq, DO.lst.injEq, and_true, true_and, and_false, false_and, exists_false, exists_const, List.getElem?_cons_zero, List.getElem?_cons_succ, List.map_cons, List.map_nil, List.length_cons, List.length_nil, List.replicate_zero, List.replicate_succ, List.append_nil, List.cons_append, List.nil_append, List.set_cons_zero, List.set_cons_succ, Nat.reduceAdd, Nat.reduceSub, Nat.zero_add, reduceIte, Bool.false_eq_true, reduceCtorEq, if_true, if_false, Bool.not_true, Bool.not_false, exists_and_left, Bool.true_xor, Bool.false_xor]
          simpa [isRow] using q'
        | tup cs =>
          simp only [dVar, dC, dOp, dUn, dNil, dCons, dTup, dLst, dCB, dTest, dAnd, dOr, dNot, dAndV, dOrV, dNotV, dIfE, dChain, sNext, sSeq, sBreak, sCont, sDrop, sRet, sRetN, sIf, gdName, gdNil, gdCons, gdTup, gdSub, sAsg, dCall, xOf, sFor, dSeq, dRng1, dRng2, dI, dI0, dB0, dAdd, dIsN, dNotN, isNon, dIx, dSetL, dNeg, one, two, dLen1, dListOf1, dTupOf1, dAbs1, dIntOf1, dII, marg, dAppend1, dExtend1, dIsi, isA, dSl, dPart, dNoPart, dCut, dLc, dYes, sRaise, sTry, exBy, sPar2, sPar3, dIsBl, dNotBl, dBM, dBM0, dEq, dNe, dIn, dSgn, dIsiT2, isAny, dLenSet, dLstL, dOfE, dIxL, dCon, fLen, fTup, fSum, fMax, fMin, fAll, fAny, dEqLL, dNeLL, dLenSetL, dRefL, sTryN, exByN, goneD, withD, dXf, sRaiseF, dLc2, dEnum, dListRg1, dListRg2, dTupRg1, dTupRg2, dStrOf1, dRep, dstart, fnE_nx, fnE_rt, fnE_ex, Nat.zero_le, Nat.reduceLeDiff, decide_true, decide_false, true_or, or_true, false_or, or_false, decide_eq_true_eq, exists_eq_left', exists_eq_left, exists_eq_right, exists_eq_right', Option.some.injEq, List.cons.injEq, D.int.injEq, D.bl.injEq, D.str.injEq, D.tup.injEq, D.lro.injEq, D.ref.injEq, DO.lst.injEq, and_true, true_and, and_false, false_and, exists_false, exists_const, List.getElem?_cons_zero, List.getElem?_cons_succ, List.map_cons, List.map_nil, List.length_cons, List.length_nil, List.replicate_zero, List.replicate_succ, List.append_nil, List.cons_append, List.nil_append, List.set_cons_zero, List.set_cons_succ, Nat.reduceAdd, Nat.reduceSub, Nat.zero_add, reduceIte, Bool.false_eq_true, reduceCtorEq, if_true, if_false, Bool.not_true, Bool.not_false, exists_and_left, Bool.true_xor, Bool.false_xor]
          have e3 : isRow (.tup cs) 1 1002 = decide (1 ≤ (cs.length : Int) ∧ (cs.length : Int) ≤ 1002) := rfl
          have e4 : tupV (.tup cs) = cs := rfl
          rw [e3, e4] at q'
          by_cases h5 : 1 ≤ (cs.length : Int)
          · rw [if_pos h5]
            by_cases h6 : (cs.length : Int) ≤ 1002
            · rw [decide_eq_true ⟨h5, h6⟩] at q'
              rw [decide_eq_true h6]
              simp only [dVar, dC, dOp, dUn, dNil, dCons, dTup, dLst, dCB, dTest, dAnd, dOr, dNot, dAndV, dOrV, dNotV, dIfE, dChain, sNext, sSeq, sBreak, sCont, sDrop, sRet, sRetN, sIf, gdName, gdNil, gdCons, gdTup, gdSub, sAsg, dCall, xOf, sFor, dSeq, dRng1, dRng2, dI, dI0, dB0, dAdd, dIsN, dNotN, isNon, dIx, dSetL, dNeg, one, two, dLen1, dListOf1, dTupOf1, dAbs1, dIntOf1, dII, marg, dAppend1, dExtend1, dIsi, isA, dSl, dPart, dNoPart, dCut, dLc, dYes, sRaise, sTry, exBy, sPar2, sPar3, dIsBl, dNotBl, dBM, dBM0, dEq, dNe, dIn, dSgn, dIsiT2, isAny, dLenSet, dLstL, dOfE, dIxL, dCon, fLen, fTup, fSum, fMax, fMin, fAll, fAny, dEqLL, dNeLL, dLenSetL, dRefL, sTryN, exByN, goneD, withD, dXf, sRaiseF, dLc2, dEnum, dListRg1, dListRg2, dTupRg1, dTupRg2, dStrOf1, dRep, dstart, fnE_nx, fnE_rt, fnE_ex, Nat.zero_le, Nat.reduceLeDiff, decide_true, decide_false, true_or, or_true, false_or, or_false, decide_eq_true_eq, exists_eq_left', exists_eq_left, exists_eq_right, exists_eq_right', Option.some.injEq, List.cons.injEq, D.int.injEq, D.bl.injEq, D.str.injEq, D.tup.injEq, D.lro.injEq, D.ref.injEq, DO.lst.injEq, and_true, true_and, and_false, false_and, exists_false, exists_const, List.getElem?_cons_zero, List.getElem?_cons_succ, List.map_cons, List.map_nil, List.length_cons, List.length_nil, List.replicate_zero, List.replicate_succ, List.append_nil, List.cons_append, List.nil_append, List.set_cons_zero, List.set_cons_succ, Nat.reduceAdd, Nat.reduceSub, Nat.zero_add, reduceIte, Bool.false_eq_true, reduceCtorEq, if_true, if_false, Bool.not_true, Bool.not_false, exists_and_left, Bool.true_xor, Bool.false_xor]
              simp only [d_is_position_t4, dVar, dC, dOp, dUn, dNil, dCons, dTup, dLst, dCB, dTest, dAnd, dOr, dNot, dAndV, dOrV, dNotV, dIfE, dChain, sNext, sSeq, sBreak, sCont, sDrop, sRet, sRetN, sIf, gdName, gdNil, gdCons, gdTup, gdSub, sAsg, dCall, xOf, sFor, dSeq, dRng1, dRng2, dI, dI0, dB0, dAdd, dIsN, dNotN, isNon, dIx, dSetL, dNeg, one, two, dLen1, dListOf1, dTupOf1, dAbs1, dIntOf1, dII, marg, dAppend1, dExtend1, dIsi, isA, dSl, dPart, dNoPart, dCut, dLc, dYes, sRaise, sTry, exBy, sPar2, sPar3, dIsBl, dNotBl, dBM, dBM0, dEq, dNe, dIn, dSgn, dIsiT2, isAny, dLenSet, dLstL, dOfE, dIxL, dCon, fLen, fTup, fSum, fMax, fMin, fAll, fAny, dEqLL, dNeLL, dLenSetL, dRefL, sTryN, exByN, goneD, withD, dXf, sRaiseF, dLc2, dEnum, dListRg1, dListRg2, dTupRg1, dTupRg2, dStrOf1, dRep, dstart, fnE_nx, fnE_rt, fnE_ex, Nat.zero_le, Nat.reduceLeDiff, decide_true, decide_false, true_or, or_true, false_or, or_false, decide_eq_true_eq, exists_eq_left', exists_eq_left, exists_eq_right, exists_eq_right', Option.some.injEq, List.cons.injEq, D.int.injEq, D.bl.injEq, D.str.injEq, D.tup.injEq, D.lro.injEq, D.ref.injEq, DO.lst.injEq, and_true, true_and, and_false, false_and, exists_false, exists_const, List.getElem?_cons_zero, List.getElem?_cons_succ, List.map_cons, List.map_nil, List.length_cons, List.length_nil, List.replicate_zero, List.replicate_succ, List.append_nil, List.cons_append, List.nil_append, List.set_cons_zero, List.set_cons_succ, Nat.reduceAdd, Nat.reduceSub, Nat.zero_add, reduceIte, Bool.false_eq_true, reduceCtorEq, if_true, if_false, Bool.not_true, Bool.not_false, exists_and_left, Bool.true_xor, Bool.false_xor, dwipe]
              refine ⟨cs, _, rfl, lcD_map (fun d => .bl (wthn d 0 (many - 1))) _ trivial _ (fun d hd Kt hK Kf => ?_) [] (by simp; omega) fun p hp => keep_new ?_ hp⟩
              · simp only [dVar, dC, dOp, dUn, dNil, dCons, dTup, dLst, dCB, dTest, dAnd, dOr, dNot, dAndV, dOrV, dNotV, dIfE, dChain, sNext, sSeq, sBreak, sCont, sDrop, sRet, sRetN, sIf, gdName, gdNil, gdCons, gdTup, gdSub, sAsg, dCall, xOf, sFor, dSeq, dRng1, dRng2, dI, dI0, dB0, dAdd, dIsN, dNotN, isNon, dIx, dSetL, dNeg, one, two, dLen1, dListOf1, dTupOf1, dAbs1, dIntOf1, dII, marg, dAppend1, dExtend1, dIsi, isA, dSl, dPart, dNoPart, dCut, dLc, dYes, sRaise, sTry, exBy, sPar2, sPar3, dIsBl, dNotBl, dBM, dBM0, dEq, dNe, dIn, dSgn, dIsiT2, isAny, dLenSet, dLstL, dOfE, dIxL, dCon, fLen, fTup, fSum, fMax, fMin, fAll, fAny, dEqLL, dNeLL, dLenSetL, dRefL, sTryN, exByN, goneD, withD, dXf, sRaiseF, dLc2, dEnum, dListRg1, dListRg2, dTupRg1, dTupRg2, dStrOf1, dRep, dstart, fnE_nx, fnE_rt, fnE_ex, Nat.zero_le, Nat.reduceLeDiff, decide_true, decide_false, true_or, or_true, false_or, or_false, decide_eq_true_eq, exists_eq_left', exists_eq_left, exists_eq_right, exists_eq_right', Option.some.injEq, List.cons.injEq, D.int.injEq, D.bl.injEq, D.str.injEq, D.tup.injEq, D.lro.injEq, D.ref.injEq, DO.lst.injEq, and_true, true_and, and_false, false_and, exists_false, exists_const, List.getElem?_cons_zero, List.getElem?_cons_succ, List.map_cons, List.map_nil, List.length_cons, List.length_nil, List.replicate_zero, List.replicate_succ, List.append_nil, List.cons_append, List.nil_append, List.set_cons_zero, List.set_cons_succ, Nat.reduceAdd, Nat.reduceSub, Nat.zero_add, reduceIte, Bool.false_eq_true, reduceCtorEq, if_true, if_false, Bool.not_true, Bool.not_false, exists_and_left, Bool.true_xor, Bool.false_xor]
                exact ⟨d, 0, many - 1, rfl, (hn.mem hd).known, hK⟩
              refine ⟨cs.map fun x => wthn x 0 (many - 1), by simp, ?_⟩
              have e6 : ((cs.map fun x => wthn x 0 (many - 1)).all id) = cs.all fun x => wthn x 0 (many - 1) := by rw [List.all_map]; rfl
              rw [e6]
              cases h7 : cs.all fun x => wthn x 0 (many - 1) with
              | false => rw [h7] at q'; simpa using q'
              | true =>
              rw [h7] at q'
              have h8 := ints_of h7
              rw [if_pos rfl]
              refine ⟨cs, rfl, (cs.map intV).map Sum.inl, by rw [← keys_ints, ← h8], by simp; omega, ?_⟩
              simp only [eqD_int]
              refine ⟨_, rfl, ?_⟩
              by_cases hnd : (cs.map intV).Nodup
              · have hd : (dd ((cs.map intV).map (Sum.inl : Int → Key))).length = cs.length := by rw [(dd_eq _).mpr ((nodup_inl _).mpr hnd)]; simp
                rw [hd]
                simpa [hnd] using q'
              · have hd : (dd ((cs.map intV).map (Sum.inl : Int → Key))).length ≠ cs.length := fun e => hnd ((nodup_inl _).mp ((dd_eq _).mp (by rw [e]; simp)))
                have : (((dd ((cs.map intV).map (Sum.inl : Int → Key))).length : Int) == (cs.length : Int)) = false := beq_eq_false_iff_ne.mpr (by omega)
                rw [this]
                simpa [hnd] using q'
            · rw [decide_eq_false (fun h => h6 h.2)] at q'
              rw [decide_eq_false h6]
              simpa using q'
          · rw [if_neg h5]
            rw [decide_eq_false (fun h => h5 h.1)] at q'
            simpa using q'
        | _ =>
          simp only [dVar, dC, dOp, dUn, dNil, dCons, dTup, dLst, dCB, dTest, dAnd, dOr, dNot, dAndV, dOrV, dNotV, dIfE, dChain, sNext, sSeq, sBreak, sCont, sDrop, sRet, sRetN, sIf, gdName, gdNil, gdCons, gdTup, gdSub, sAsg, dCall, xOf, sFor, dSeq, dRng1, dRng2, dI, dI0, dB0, dAdd, dIsN, dNotN, isNon, dIx, dSetL, dNeg, one, two, dLen1, dListOf1, dTupOf1, dAbs1, dIntOf1, dII, marg, dAppend1, dExtend1, dIsi, isA, dSl, dPart, dNoPart, dCut, dLc, dYes, sRaise, sTry, exBy, sPar2, sPar3, dIsBl, dNotBl, dBM, dBM0, dEq, dNe, dIn, dSgn, dIsiT2, isAny, dLenSet, dLstL, dOfE, dIxL, dCon, fLen, fTup, fSum, fMax, fMin, fAll, fAny, dEqLL, dNeLL, dLenSetL, dRefL, sTryN, exByN, goneD, withD, dXf, sRaiseF, dLc2, dEnum, dListRg1, dListRg2, dTupRg1, dTupRg2, dStrOf1, dRep, dstart, fnE_nx, fnE_rt, fnE_ex, Nat.zero_le, Nat.reduceLeDiff, decide_true, decide_false, true_or, or_true, false_or, or_false, decide_eq_true_eq, exists_eq_left', exists_eq_left, exists_eq_right, exists_eq_right', Option.some.injEq, List.cons.injEq, D.int.injEq, D.bl.injEq, D.str.injEq, D.tup.injEq, D.lro.injEq, D.ref.injEq, DO.lst.injEq, and_true, true_and, and_false, false_and, exists_false, exists_const, List.getElem?_cons_zero, List.getElem?_cons_succ, List.map_cons, List.map_nil, List.length_cons, List.length_nil, List.replicate_zero, List.replicate_succ, List.append_nil, List.cons_append, List.nil_append, List.set_cons_zero, List.set_cons_succ, Nat.reduceAdd, Nat.reduceSub, Nat.zero_add, reduceIte, Bool.false_eq_true, reduceCtorEq, if_true, if_false, Bool.not_true, Bool.not_false, exists_and_left, Bool.true_xor, Bool.false_xor]
          simpa [isRow] using q'
      | _ =>
        simp only [isInt, dVar, dC, dOp, dUn, dNil, dCons, dTup, dLst, dCB, dTest, dAnd, dOr, dNot, dAndV, dOrV, dNotV, dIfE, dChain, sNext, sSeq, sBreak, sCont, sDrop, sRet, sRetN, sIf, gdName, gdNil, gdCons, gdTup, gdSub, sAsg, dCall, xOf, sFor, dSeq, dRng1, dRng2, dI, dI0, dB0, dAdd, dIsN, dNotN, isNon, dIx, dSetL, dNeg, one, two, dLen1, dListOf1, dTupOf1, dAbs1, dIntOf1, dII, marg, dAppend1, dExtend1, dIsi, isA, dSl, dPart, dNoPart, dCut, dLc, dYes, sRaise, sTry, exBy, sPar2, sPar3, dIsBl, dNotBl, dBM, dBM0, dEq, dNe, dIn, dSgn, dIsiT2, isAny, dLenSet, dLstL, dOfE, dIxL, dCon, fLen, fTup, fSum, fMax, fMin, fAll, fAny, dEqLL, dNeLL, dLenSetL, dRefL, sTryN, exByN, goneD, withD, dXf, sRaiseF, dLc2, dEnum, dListRg1, dListRg2, dTupRg1, dTupRg2, dStrOf1, dRep, dstart, fnE_nx, fnE_rt, fnE_ex, Nat.zero_le, Nat.reduceLeDiff, decide_true, decide_false, true_or, or_true, false_or, or_false, decide_eq_true_eq, exists_eq_left', exists_eq_left, exists_eq_right, exists_eq_right', Option.some.injEq, List.cons.injEq, D.int.injEq, D.bl.injEq, D.str.injEq, D.tup.injEq, D.lro.injEq, D.ref.injEq, DO.lst.injEq, and_true, true_and, and_false, false_and, exists_false, exists_const, List.getElem?_cons_zero, List.getElem?_cons_succ, List.map_cons, List.map_nil, List.length_cons, List.length_nil, List.replicate_zero, List.replicate_succ, List.append_nil, List.cons_append, List.nil_append, List.set_cons_zero, List.set_cons_succ, Nat.reduceAdd, Nat.reduceSub, Nat.zero_add, reduceIte, Bool.false_eq_true, reduceCtorEq, if_true, if_false, Bool.not_true, Bool.not_false, exists_and_left, Bool.true_xor, Bool.false_xor]
        simpa [isInt] using q'
    · simp only [d_is_position, dVar, dC, dOp, dUn, dNil, dCons, dTup, dLst, dCB, dTest, dAnd, dOr, dNot, dAndV, dOrV, dNotV, dIfE, dChain, sNext, sSeq, sBreak, sCont, sDrop, sRet, sRetN, sIf, gdName, gdNil, gdCons, gdTup, gdSub, sAsg, dCall, xOf, sFor, dSeq, dRng1, dRng2, dI, dI0, dB0, dAdd, dIsN, dNotN, isNon, dIx, dSetL, dNeg, one, two, dLen1, dListOf1, dTupOf1, dAbs1, dIntOf1, dII, marg, dAppend1, dExtend1, dIsi, isA, dSl, dPart, dNoPart, dCut, dLc, dYes, sRaise, sTry, exBy, sPar2, sPar3, dIsBl, dNotBl, dBM, dBM0, dEq, dNe, dIn, dSgn, dIsiT2, isAny, dLenSet, dLstL, dOfE, dIxL, dCon, fLen, fTup, fSum, fMax, fMin, fAll, fAny, dEqLL, dNeLL, dLenSetL, dRefL, sTryN, exByN, goneD, withD, dXf, sRaiseF, dLc2, dEnum, dListRg1, dListRg2, dTupRg1, dTupRg2, dStrOf1, dRep, dstart, fnE_nx, fnE_rt, fnE_ex, Nat.zero_le, Nat.reduceLeDiff, decide_true, decide_false, true_or, or_true, false_or, or_false, decide_eq_true_eq, exists_eq_left', exists_eq_left, exists_eq_right, exists_eq_right', Option.some.injEq, List.cons.injEq, D.int.injEq, D.bl.injEq, D.str.injEq, D.tup.injEq, D.lro.injEq, D.ref.injEq, DO.lst.injEq, and_true, true_and, and_false, false_and, exists_false, exists_const, List.getElem?_cons_zero, List.getElem?_cons_succ, List.map_cons, List.map_nil, List.length_cons, List.length_nil, List.replicate_zero, List.replicate_succ, List.append_nil, List.cons_append, List.nil_append, List.set_cons_zero, List.set_cons_succ, Nat.reduceAdd, Nat.reduceSub, Nat.zero_add, reduceIte, Bool.false_eq_true, reduceCtorEq, if_true, if_false, Bool.not_true, Bool.not_false, exists_and_left, Bool.true_xor, Bool.false_xor, eqD_int]
      rw [isPos_len h3] at q'
      rw [if_pos (by simp; omega)]
      exact q'
  | _ =>
    simp only [d_is_position, d_is_position_t4, d_is_position_t3, d_is_position_t2, d_is_position_t1, dVar, dC, dOp, dUn, dNil, dCons, dTup, dLst, dCB, dTest, dAnd, dOr, dNot, dAndV, dOrV, dNotV, dIfE, dChain, sNext, sSeq, sBreak, sCont, sDrop, sRet, sRetN, sIf, gdName, gdNil, gdCons, gdTup, gdSub, sAsg, dCall, xOf, sFor, dSeq, dRng1, dRng2, dI, dI0, dB0, dAdd, dIsN, dNotN, isNon, dIx, dSetL, dNeg, one, two, dLen1, dListOf1, dTupOf1, dAbs1, dIntOf1, dII, marg, dAppend1, dExtend1, dIsi, isA, dSl, dPart, dNoPart, dCut, dLc, dYes, sRaise, sTry, exBy, sPar2, sPar3, dIsBl, dNotBl, dBM, dBM0, dEq, dNe, dIn, dSgn, dIsiT2, isAny, dLenSet, dLstL, dOfE, dIxL, dCon, fLen, fTup, fSum, fMax, fMin, fAll, fAny, dEqLL, dNeLL, dLenSetL, dRefL, sTryN, exByN, goneD, withD, dXf, sRaiseF, dLc2, dEnum, dListRg1, dListRg2, dTupRg1, dTupRg2, dStrOf1, dRep, dstart, fnE_nx, fnE_rt, fnE_ex, Nat.zero_le, Nat.reduceLeDiff, decide_true, decide_false, true_or, or_true, false_or, or_false, decide_eq_true_eq, exists_eq_left', exists_eq_left, exists_eq_right, exists_eq_right', Option.some.injEq, List.cons.injEq, D.int.injEq, D.bl.injEq, D.str.injEq, D.tup.injEq, D.lro.injEq, D.ref.injEq, DO.lst.injEq, and_true, true_and, and_false, false_and, exists_false, exists_const, List.getElem?_cons_zero, List.getElem?_cons_succ, List.map_cons, List.map_nil, List.length_cons, List.length_nil, List.replicate_zero, List.replicate_succ, List.append_nil, List.cons_append, List.nil_append, List.set_cons_zero, List.set_cons_succ, Nat.reduceAdd, Nat.reduceSub, Nat.zero_add, reduceIte, Bool.false_eq_true, reduceCtorEq, if_true, if_false, Bool.not_true, Bool.not_false, exists_and_left, Bool.true_xor, Bool.false_xor]
    exact q'
theorem isPos_of {d : D} {many : Int} (h : isPos d many = true) : d = .tup [.int (ownD d), .int (mkD d), .tup ((nxD d).map .int)] ∧ 0 ≤ ownD d ∧ ownD d ≤ 1 ∧ 0 ≤ mkD d ∧ 1 ≤ (nxD d).length ∧ (nxD d).length ≤ 1002 ∧ (∀ w, w ∈ nxD d → 0 ≤ w ∧ w < many) ∧ (nxD d).Nodup := by
  unfold isPos at h
  split at h
  · rename_i o m ns
    simp only [Bool.and_eq_true, decide_eq_true_eq] at h
    obtain ⟨⟨⟨⟨⟨h1, h2⟩, h3⟩, h4⟩, h5⟩, h6⟩ := h
    obtain ⟨o, rfl, o0, o1⟩ := wthn_int h1
    cases m with
    | int m =>
      obtain ⟨cs, rfl, c1, c2⟩ := isRow_tup h4
      have h5 : (cs.all fun x => wthn x 0 (many - 1)) = true := h5
      have e := ints_of h5
      refine ⟨?_, o0, o1, h3, ?_, ?_, fun w hw => ?_, h6⟩
      · show D.tup [.int o, .int m, .tup cs] = .tup [.int o, .int m, .tup ((cs.map intV).map .int)]
        rw [← e]
      · show 1 ≤ (cs.map intV).length
        rw [List.length_map]; omega
      · show (cs.map intV).length ≤ 1002
        rw [List.length_map]; omega
      · obtain ⟨d, hd, rfl⟩ := List.mem_map.mp (show w ∈ cs.map intV from hw)
        obtain ⟨x, rfl, a, b⟩ := wthn_int (List.all_eq_true.mp h5 d hd)
        exact ⟨a, by show x < many; omega⟩
    | _ => cases h2
  · cases h
/-- the marks of a game, each once -/
def marksI (rows : List D) : List Int := rows.map mkD
def isGame (d : D) : Bool := match d with
  | .tup rows => decide (1 ≤ rows.length ∧ rows.length ≤ 10000) && rows.all (fun r => isPos r rows.length) && decide ((dd ((marksI rows).map (Sum.inl : Int → Key))).length ≤ 20)
  | _ => false
def sp_is_game : SpD := fun ds L Q _ => ∃ d, ds = [d] ∧ Tm L d ∧ (∀ rows, d = .tup rows → rows.length ≤ 4000) ∧ Q (.bl (isGame d)) L
theorem len_is_game : ∀ as L Q E, sp_is_game as L Q E → as.length = 1 := by rintro _ L Q E ⟨d, rfl, _⟩; rfl
def d_is_game_b1 : DS :=
  (sIf (dNot (dTest (dCall sp_is_position (dCons (dVar 1) (dCons (dCB dLen (dCons (dVar 0) dNil)) dNil))))) (sRet (dC (.bl false))) sNext)
def d_is_game_t2 : DS :=
  (sRet (dOp dLe (dLenSetL (dOfE (dLc (dSeq (dVar 0)) (gdName 1) dYes (dOp dIx (dVar 1) (dC (.int 1))) [1]))) (dC (.int 20))))
def d_is_game_t1 : DS :=
  (sSeq (sFor (dSeq (dVar 0)) (gdName 1)
  d_is_game_b1) d_is_game_t2)
def d_is_game : DS :=
  (sSeq (sIf (dOr (dNot (dTest (dIsi .tup (dVar 0)))) (dNot (dTest (dChain dLe dLe (dC (.int 1)) (dCB dLen (dCons (dVar 0) dNil)) (dC (.int 10000)))))) (sRet (dC (.bl false))) sNext) d_is_game_t1)

theorem pure_is_game : ∀ as L Q E, sp_is_game as L Q E → d_is_game (fnEnds Q E) (dstart 2 as) L := by
  rintro as L Q E ⟨d, rfl, hk, h4, q⟩
  have q' := endOf q
  have hkn := hk.known
  cases d with
  | exc _ _ _ _ _ => exact hkn.elim
  | ref a =>
    obtain ⟨xs, h⟩ := hkn
    simp only [d_is_game, d_is_game_b1, d_is_game_t2, d_is_game_t1, h, dVar, dC, dOp, dUn, dNil, dCons, dTup, dLst, dCB, dTest, dAnd, dOr, dNot, dAndV, dOrV, dNotV, dIfE, dChain, sNext, sSeq, sBreak, sCont, sDrop, sRet, sRetN, sIf, gdName, gdNil, gdCons, gdTup, gdSub, sAsg, dCall, xOf, sFor, dSeq, dRng1, dRng2, dI, dI0, dB0, dAdd, dIsN, dNotN, isNon, dIx, dSetL, dNeg, one, two, dLen1, dListOf1, dTupOf1, dAbs1, dIntOf1, dII, marg, dAppend1, dExtend1, dIsi, isA, dSl, dPart, dNoPart, dCut, dLc, dYes, sRaise, sTry, exBy, sPar2, sPar3, dIsBl, dNotBl, dBM, dBM0, dEq, dNe, dIn, dSgn, dIsiT2, isAny, dLenSet, dLstL, dOfE, dIxL, dCon, fLen, fTup, fSum, fMax, fMin, fAll, fAny, dEqLL, dNeLL, dLenSetL, dRefL, sTryN, exByN, goneD, withD, dXf, sRaiseF, dLc2, dEnum, dListRg1, dListRg2, dTupRg1, dTupRg2, dStrOf1, dRep, dstart, fnE_nx, fnE_rt, fnE_ex, Nat.zero_le, Nat.reduceLeDiff, decide_true, decide_false, true_or, or_true, false_or, or_false, decide_eq_true_eq, exists_eq_left', exists_eq_left, exists_eq_right, exists_eq_right', Option.some.injEq, List.cons.injEq, D.int.injEq, D.bl.injEq, D.str.injEq, D.tup.injEq, D.lro.injEq, D.ref.injEq, DO.lst.injEq, and_true, true_and, and_false, false_and, exists_false, exists_const, List.getElem?_cons_zero, List.getElem?_cons_succ, List.map_cons, List.map_nil, List.length_cons, List.length_nil, List.replicate_zero, List.replicate_succ, List.append_nil, List.cons_append, List.nil_append, List.set_cons_zero, List.set_cons_succ, Nat.reduceAdd, Nat.reduceSub, Nat.zero_add, reduceIte, Bool.false_eq_true, reduceCtorEq, if_true, if_false, Bool.not_true, Bool.not_false, exists_and_left, Bool.true_xor, Bool.false_xor]
    exact q'
  | tup rows =>
    have h4 := h4 rows rfl
    have e0 : isGame (.tup rows) = (decide (1 ≤ rows.length ∧ rows.length ≤ 10000) && rows.all (fun r => isPos r rows.length) && decide ((dd ((marksI rows).map (Sum.inl : Int → Key))).length ≤ 20)) := rfl
    rw [e0] at q'
    simp only [d_is_game, dVar, dC, dOp, dUn, dNil, dCons, dTup, dLst, dCB, dTest, dAnd, dOr, dNot, dAndV, dOrV, dNotV, dIfE, dChain, sNext, sSeq, sBreak, sCont, sDrop, sRet, sRetN, sIf, gdName, gdNil, gdCons, gdTup, gdSub, sAsg, dCall, xOf, sFor, dSeq, dRng1, dRng2, dI, dI0, dB0, dAdd, dIsN, dNotN, isNon, dIx, dSetL, dNeg, one, two, dLen1, dListOf1, dTupOf1, dAbs1, dIntOf1, dII, marg, dAppend1, dExtend1, dIsi, isA, dSl, dPart, dNoPart, dCut, dLc, dYes, sRaise, sTry, exBy, sPar2, sPar3, dIsBl, dNotBl, dBM, dBM0, dEq, dNe, dIn, dSgn, dIsiT2, isAny, dLenSet, dLstL, dOfE, dIxL, dCon, fLen, fTup, fSum, fMax, fMin, fAll, fAny, dEqLL, dNeLL, dLenSetL, dRefL, sTryN, exByN, goneD, withD, dXf, sRaiseF, dLc2, dEnum, dListRg1, dListRg2, dTupRg1, dTupRg2, dStrOf1, dRep, dstart, fnE_nx, fnE_rt, fnE_ex, Nat.zero_le, Nat.reduceLeDiff, decide_true, decide_false, true_or, or_true, false_or, or_false, decide_eq_true_eq, exists_eq_left', exists_eq_left, exists_eq_right, exists_eq_right', Option.some.injEq, List.cons.injEq, D.int.injEq, D.bl.injEq, D.str.injEq, D.tup.injEq, D.lro.injEq, D.ref.injEq, DO.lst.injEq, and_true, true_and, and_false, false_and, exists_false, exists_const, List.getElem?_cons_zero, List.getElem?_cons_succ, List.map_cons, List.map_nil, List.length_cons, List.length_nil, List.replicate_zero, List.replicate_succ, List.append_nil, List.cons_append, List.nil_append, List.set_cons_zero, List.set_cons_succ, Nat.reduceAdd, Nat.reduceSub, Nat.zero_add, reduceIte, Bool.false_eq_true, reduceCtorEq, if_true, if_false, Bool.not_true, Bool.not_false, exists_and_left, Bool.true_xor, Bool.false_xor]
    by_cases h5 : 1 ≤ (rows.length : Int)
    · rw [if_pos h5, decide_eq_true (show (rows.length : Int) ≤ 10000 by omega)]
      rw [decide_eq_true (show 1 ≤ rows.length ∧ rows.length ≤ 10000 by omega)] at q'
      simp only [d_is_game_t1, dVar, dC, dOp, dUn, dNil, dCons, dTup, dLst, dCB, dTest, dAnd, dOr, dNot, dAndV, dOrV, dNotV, dIfE, dChain, sNext, sSeq, sBreak, sCont, sDrop, sRet, sRetN, sIf, gdName, gdNil, gdCons, gdTup, gdSub, sAsg, dCall, xOf, sFor, dSeq, dRng1, dRng2, dI, dI0, dB0, dAdd, dIsN, dNotN, isNon, dIx, dSetL, dNeg, one, two, dLen1, dListOf1, dTupOf1, dAbs1, dIntOf1, dII, marg, dAppend1, dExtend1, dIsi, isA, dSl, dPart, dNoPart, dCut, dLc, dYes, sRaise, sTry, exBy, sPar2, sPar3, dIsBl, dNotBl, dBM, dBM0, dEq, dNe, dIn, dSgn, dIsiT2, isAny, dLenSet, dLstL, dOfE, dIxL, dCon, fLen, fTup, fSum, fMax, fMin, fAll, fAny, dEqLL, dNeLL, dLenSetL, dRefL, sTryN, exByN, goneD, withD, dXf, sRaiseF, dLc2, dEnum, dListRg1, dListRg2, dTupRg1, dTupRg2, dStrOf1, dRep, dstart, fnE_nx, fnE_rt, fnE_ex, Nat.zero_le, Nat.reduceLeDiff, decide_true, decide_false, true_or, or_true, false_or, or_false, decide_eq_true_eq, exists_eq_left', exists_eq_left, exists_eq_right, exists_eq_right', Option.some.injEq, List.cons.injEq, D.int.injEq, D.bl.injEq, D.str.injEq, D.tup.injEq, D.lro.injEq, D.ref.injEq, DO.lst.injEq, and_true, true_and, and_false, false_and, exists_false, exists_const, List.getElem?_cons_zero, List.getElem?_cons_succ, List.map_cons, List.map_nil, List.length_cons, List.length_nil, List.replicate_zero, List.replicate_succ, List.append_nil, List.cons_append, List.nil_append, List.set_cons_zero, List.set_cons_succ, Nat.reduceAdd, Nat.reduceSub, Nat.zero_add, reduceIte, Bool.false_eq_true, reduceCtorEq, if_true, if_false, Bool.not_true, Bool.not_false, exists_and_left, Bool.true_xor, Bool.false_xor]
      refine ⟨rows, _, rfl, ?_⟩
      refine forD_ind (fun rest s L' => L' = L ∧ (∃ o1, s = [some (.tup rows), o1]) ∧ (∀ r, r ∈ rest → r ∈ rows) ∧ (rest.all fun r => isPos r rows.length) = rows.all fun r => isPos r rows.length) ?_ ?_ _ _ _ ⟨rfl, ⟨_, rfl⟩, fun _ h => h, rfl⟩
      · rintro d rest s L' P hP ⟨rfl, ⟨o1, rfl⟩, hin, hall⟩
        refine ⟨trivial, ?_⟩
        simp only [d_is_game_b1, dVar, dC, dOp, dUn, dNil, dCons, dTup, dLst, dCB, dTest, dAnd, dOr, dNot, dAndV, dOrV, dNotV, dIfE, dChain, sNext, sSeq, sBreak, sCont, sDrop, sRet, sRetN, sIf, gdName, gdNil, gdCons, gdTup, gdSub, sAsg, dCall, xOf, sFor, dSeq, dRng1, dRng2, dI, dI0, dB0, dAdd, dIsN, dNotN, isNon, dIx, dSetL, dNeg, one, two, dLen1, dListOf1, dTupOf1, dAbs1, dIntOf1, dII, marg, dAppend1, dExtend1, dIsi, isA, dSl, dPart, dNoPart, dCut, dLc, dYes, sRaise, sTry, exBy, sPar2, sPar3, dIsBl, dNotBl, dBM, dBM0, dEq, dNe, dIn, dSgn, dIsiT2, isAny, dLenSet, dLstL, dOfE, dIxL, dCon, fLen, fTup, fSum, fMax, fMin, fAll, fAny, dEqLL, dNeLL, dLenSetL, dRefL, sTryN, exByN, goneD, withD, dXf, sRaiseF, dLc2, dEnum, dListRg1, dListRg2, dTupRg1, dTupRg2, dStrOf1, dRep, dstart, fnE_nx, fnE_rt, fnE_ex, Nat.zero_le, Nat.reduceLeDiff, decide_true, decide_false, true_or, or_true, false_or, or_false, decide_eq_true_eq, exists_eq_left', exists_eq_left, exists_eq_right, exists_eq_right', Option.some.injEq, List.cons.injEq, D.int.injEq, D.bl.injEq, D.str.injEq, D.tup.injEq, D.lro.injEq, D.ref.injEq, DO.lst.injEq, and_true, true_and, and_false, false_and, exists_false, exists_const, List.getElem?_cons_zero, List.getElem?_cons_succ, List.map_cons, List.map_nil, List.length_cons, List.length_nil, List.replicate_zero, List.replicate_succ, List.append_nil, List.cons_append, List.nil_append, List.set_cons_zero, List.set_cons_succ, Nat.reduceAdd, Nat.reduceSub, Nat.zero_add, reduceIte, Bool.false_eq_true, reduceCtorEq, if_true, if_false, Bool.not_true, Bool.not_false, exists_and_left, Bool.true_xor, Bool.false_xor]
        refine ⟨d, _, rfl, hk.mem (hin d List.mem_cons_self), ?_⟩
        cases h6 : isPos d rows.length with
        | false =>
          rw [List.all_cons, h6, Bool.false_and] at hall
          rw [← hall] at q'
          simpa using q'
        | true =>
          rw [List.all_cons, h6, Bool.true_and] at hall
          simp only [dVar, dC, dOp, dUn, dNil, dCons, dTup, dLst, dCB, dTest, dAnd, dOr, dNot, dAndV, dOrV, dNotV, dIfE, dChain, sNext, sSeq, sBreak, sCont, sDrop, sRet, sRetN, sIf, gdName, gdNil, gdCons, gdTup, gdSub, sAsg, dCall, xOf, sFor, dSeq, dRng1, dRng2, dI, dI0, dB0, dAdd, dIsN, dNotN, isNon, dIx, dSetL, dNeg, one, two, dLen1, dListOf1, dTupOf1, dAbs1, dIntOf1, dII, marg, dAppend1, dExtend1, dIsi, isA, dSl, dPart, dNoPart, dCut, dLc, dYes, sRaise, sTry, exBy, sPar2, sPar3, dIsBl, dNotBl, dBM, dBM0, dEq, dNe, dIn, dSgn, dIsiT2, isAny, dLenSet, dLstL, dOfE, dIxL, dCon, fLen, fTup, fSum, fMax, fMin, fAll, fAny, dEqLL, dNeLL, dLenSetL, dRefL, sTryN, exByN, goneD, withD, dXf, sRaiseF, dLc2, dEnum, dListRg1, dListRg2, dTupRg1, dTupRg2, dStrOf1, dRep, dstart, fnE_nx, fnE_rt, fnE_ex, Nat.zero_le, Nat.reduceLeDiff, decide_true, decide_false, true_or, or_true, false_or, or_false, decide_eq_true_eq, exists_eq_left', exists_eq_left, exists_eq_right, exists_eq_right', Option.some.injEq, List.cons.injEq, D.int.injEq, D.bl.injEq, D.str.injEq, D.tup.injEq, D.lro.injEq, D.ref.injEq, DO.lst.injEq, and_true, true_and, and_false, false_and, exists_false, exists_const, List.getElem?_cons_zero, List.getElem?_cons_succ, List.map_cons, List.map_nil, List.length_cons, List.length_nil, List.replicate_zero, List.replicate_succ, List.append_nil, List.cons_append, List.nil_append, List.set_cons_zero, List.set_cons_succ, Nat.reduceAdd, Nat.reduceSub, Nat.zero_add, reduceIte, Bool.false_eq_true, reduceCtorEq, if_true, if_false, Bool.not_true, Bool.not_false, exists_and_left, Bool.true_xor, Bool.false_xor]
          exact hP _ _ ⟨rfl, ⟨_, rfl⟩, fun r hr => hin r (List.mem_cons_of_mem _ hr), hall⟩
      · rintro s L' ⟨rfl, ⟨o1, rfl⟩, _, hall⟩
        refine ⟨trivial, ?_⟩
        have hall : (rows.all fun r => isPos r rows.length) = true := by rw [← hall]; rfl
        rw [hall] at q'
        simp only [d_is_game_t2, dVar, dC, dOp, dUn, dNil, dCons, dTup, dLst, dCB, dTest, dAnd, dOr, dNot, dAndV, dOrV, dNotV, dIfE, dChain, sNext, sSeq, sBreak, sCont, sDrop, sRet, sRetN, sIf, gdName, gdNil, gdCons, gdTup, gdSub, sAsg, dCall, xOf, sFor, dSeq, dRng1, dRng2, dI, dI0, dB0, dAdd, dIsN, dNotN, isNon, dIx, dSetL, dNeg, one, two, dLen1, dListOf1, dTupOf1, dAbs1, dIntOf1, dII, marg, dAppend1, dExtend1, dIsi, isA, dSl, dPart, dNoPart, dCut, dLc, dYes, sRaise, sTry, exBy, sPar2, sPar3, dIsBl, dNotBl, dBM, dBM0, dEq, dNe, dIn, dSgn, dIsiT2, isAny, dLenSet, dLstL, dOfE, dIxL, dCon, fLen, fTup, fSum, fMax, fMin, fAll, fAny, dEqLL, dNeLL, dLenSetL, dRefL, sTryN, exByN, goneD, withD, dXf, sRaiseF, dLc2, dEnum, dListRg1, dListRg2, dTupRg1, dTupRg2, dStrOf1, dRep, dstart, fnE_nx, fnE_rt, fnE_ex, Nat.zero_le, Nat.reduceLeDiff, decide_true, decide_false, true_or, or_true, false_or, or_false, decide_eq_true_eq, exists_eq_left', exists_eq_left, exists_eq_right, exists_eq_right', Option.some.injEq, List.cons.injEq, D.int.injEq, D.bl.injEq, D.str.injEq, D.tup.injEq, D.lro.injEq, D.ref.injEq, DO.lst.injEq, and_true, true_and, and_false, false_and, exists_false, exists_const, List.getElem?_cons_zero, List.getElem?_cons_succ, List.map_cons, List.map_nil, List.length_cons, List.length_nil, List.replicate_zero, List.replicate_succ, List.append_nil, List.cons_append, List.nil_append, List.set_cons_zero, List.set_cons_succ, Nat.reduceAdd, Nat.reduceSub, Nat.zero_add, reduceIte, Bool.false_eq_true, reduceCtorEq, if_true, if_false, Bool.not_true, Bool.not_false, exists_and_left, Bool.true_xor, Bool.false_xor, dwipe]
        refine ⟨rows, _, rfl, lcD_map (fun r => .int (mkD r)) _ trivial _ (fun d hd Kt hK Kf => ?_) [] (by simp; omega) fun p hp => keep_new ?_ hp⟩
        · have e := (isPos_of (List.all_eq_true.mp hall d hd)).1
          have e1 : atI [D.int (ownD d), .int (mkD d), .tup ((nxD d).map .int)] 1 = some (.int (mkD d)) := rfl
          simp only [dVar, dC, dOp, dUn, dNil, dCons, dTup, dLst, dCB, dTest, dAnd, dOr, dNot, dAndV, dOrV, dNotV, dIfE, dChain, sNext, sSeq, sBreak, sCont, sDrop, sRet, sRetN, sIf, gdName, gdNil, gdCons, gdTup, gdSub, sAsg, dCall, xOf, sFor, dSeq, dRng1, dRng2, dI, dI0, dB0, dAdd, dIsN, dNotN, isNon, dIx, dSetL, dNeg, one, two, dLen1, dListOf1, dTupOf1, dAbs1, dIntOf1, dII, marg, dAppend1, dExtend1, dIsi, isA, dSl, dPart, dNoPart, dCut, dLc, dYes, sRaise, sTry, exBy, sPar2, sPar3, dIsBl, dNotBl, dBM, dBM0, dEq, dNe, dIn, dSgn, dIsiT2, isAny, dLenSet, dLstL, dOfE, dIxL, dCon, fLen, fTup, fSum, fMax, fMin, fAll, fAny, dEqLL, dNeLL, dLenSetL, dRefL, sTryN, exByN, goneD, withD, dXf, sRaiseF, dLc2, dEnum, dListRg1, dListRg2, dTupRg1, dTupRg2, dStrOf1, dRep, dstart, fnE_nx, fnE_rt, fnE_ex, Nat.zero_le, Nat.reduceLeDiff, decide_true, decide_false, true_or, or_true, false_or, or_false, decide_eq_true_eq, exists_eq_left', exists_eq_left, exists_eq_right, exists_eq_right', Option.some.injEq, List.cons.injEq, D.int.injEq, D.bl.injEq, D.str.injEq, D.tup.injEq, D.lro.injEq, D.ref.injEq, DO.lst.injEq, and_true, true_and, and_false, false_and, exists_false, exists_const, List.getElem?_cons_zero, List.getElem?_cons_succ, List.map_cons, List.map_nil, List.length_cons, List.length_nil, List.replicate_zero, List.replicate_succ, List.append_nil, List.cons_append, List.nil_append, List.set_cons_zero, List.set_cons_succ, Nat.reduceAdd, Nat.reduceSub, Nat.zero_add, reduceIte, Bool.false_eq_true, reduceCtorEq, if_true, if_false, Bool.not_true, Bool.not_false, exists_and_left, Bool.true_xor, Bool.false_xor]
          rw [e]
          simp only [dVar, dC, dOp, dUn, dNil, dCons, dTup, dLst, dCB, dTest, dAnd, dOr, dNot, dAndV, dOrV, dNotV, dIfE, dChain, sNext, sSeq, sBreak, sCont, sDrop, sRet, sRetN, sIf, gdName, gdNil, gdCons, gdTup, gdSub, sAsg, dCall, xOf, sFor, dSeq, dRng1, dRng2, dI, dI0, dB0, dAdd, dIsN, dNotN, isNon, dIx, dSetL, dNeg, one, two, dLen1, dListOf1, dTupOf1, dAbs1, dIntOf1, dII, marg, dAppend1, dExtend1, dIsi, isA, dSl, dPart, dNoPart, dCut, dLc, dYes, sRaise, sTry, exBy, sPar2, sPar3, dIsBl, dNotBl, dBM, dBM0, dEq, dNe, dIn, dSgn, dIsiT2, isAny, dLenSet, dLstL, dOfE, dIxL, dCon, fLen, fTup, fSum, fMax, fMin, fAll, fAny, dEqLL, dNeLL, dLenSetL, dRefL, sTryN, exByN, goneD, withD, dXf, sRaiseF, dLc2, dEnum, dListRg1, dListRg2, dTupRg1, dTupRg2, dStrOf1, dRep, dstart, fnE_nx, fnE_rt, fnE_ex, Nat.zero_le, Nat.reduceLeDiff, decide_true, decide_false, true_or, or_true, false_or, or_false, decide_eq_true_eq, exists_eq_left', exists_eq_left, exists_eq_right, exists_eq_right', Option.some.injEq, List.cons.injEq, D.int.injEq, D.bl.injEq, D.str.injEq, D.tup.injEq, D.lro.injEq, D.ref.injEq, DO.lst.injEq, and_true, true_and, and_false, false_and, exists_false, exists_const, List.getElem?_cons_zero, List.getElem?_cons_succ, List.map_cons, List.map_nil, List.length_cons, List.length_nil, List.replicate_zero, List.replicate_succ, List.append_nil, List.cons_append, List.nil_append, List.set_cons_zero, List.set_cons_succ, Nat.reduceAdd, Nat.reduceSub, Nat.zero_add, reduceIte, Bool.false_eq_true, reduceCtorEq, if_true, if_false, Bool.not_true, Bool.not_false, exists_and_left, Bool.true_xor, Bool.false_xor]
          exact ⟨_, e1, hK⟩
        refine ⟨(marksI rows).map Sum.inl, ?_, by simp [marksI]; omega, ?_⟩
        · rw [← keys_ints]; congr 1; simp [marksI]
        · rw [show decide (((dd ((marksI rows).map (Sum.inl : Int → Key))).length : Int) ≤ 20) = decide ((dd ((marksI rows).map (Sum.inl : Int → Key))).length ≤ 20) by congr 1; simp; omega]
          simpa using q'
    · rw [if_neg h5]
      rw [decide_eq_false (show ¬ (1 ≤ rows.length ∧ rows.length ≤ 10000) by omega)] at q'
      simpa using q'
  | _ =>
    simp only [d_is_game, d_is_game_b1, d_is_game_t2, d_is_game_t1, dVar, dC, dOp, dUn, dNil, dCons, dTup, dLst, dCB, dTest, dAnd, dOr, dNot, dAndV, dOrV, dNotV, dIfE, dChain, sNext, sSeq, sBreak, sCont, sDrop, sRet, sRetN, sIf, gdName, gdNil, gdCons, gdTup, gdSub, sAsg, dCall, xOf, sFor, dSeq, dRng1, dRng2, dI, dI0, dB0, dAdd, dIsN, dNotN, isNon, dIx, dSetL, dNeg, one, two, dLen1, dListOf1, dTupOf1, dAbs1, dIntOf1, dII, marg, dAppend1, dExtend1, dIsi, isA, dSl, dPart, dNoPart, dCut, dLc, dYes, sRaise, sTry, exBy, sPar2, sPar3, dIsBl, dNotBl, dBM, dBM0, dEq, dNe, dIn, dSgn, dIsiT2, isAny, dLenSet, dLstL, dOfE, dIxL, dCon, fLen, fTup, fSum, fMax, fMin, fAll, fAny, dEqLL, dNeLL, dLenSetL, dRefL, sTryN, exByN, goneD, withD, dXf, sRaiseF, dLc2, dEnum, dListRg1, dListRg2, dTupRg1, dTupRg2, dStrOf1, dRep, dstart, fnE_nx, fnE_rt, fnE_ex, Nat.zero_le, Nat.reduceLeDiff, decide_true, decide_false, true_or, or_true, false_or, or_false, decide_eq_true_eq, exists_eq_left', exists_eq_left, exists_eq_right, exists_eq_right', Option.some.injEq, List.cons.injEq, D.int.injEq, D.bl.injEq, D.str.injEq, D.tup.injEq, D.lro.injEq, D.ref.injEq, DO.lst.injEq, and_true, true_and, and_false, false_and, exists_false, exists_const, List.getElem?_cons_zero, List.getElem?_cons_succ, List.map_cons, List.map_nil, List.length_cons, List.length_nil, List.replicate_zero, List.replicate_succ, List.append_nil, List.cons_append, List.nil_append, List.set_cons_zero, List.set_cons_succ, Nat.reduceAdd, Nat.reduceSub, Nat.zero_add, reduceIte, Bool.false_eq_true, reduceCtorEq, if_true, if_false, Bool.not_true, Bool.not_false, exists_and_left, Bool.true_xor, Bool.false_xor]
    exact q'
def sp_need_game : SpD := fun ds L Q E => ∃ d, ds = [d] ∧ Tm L d ∧ (∀ rows, d = .tup rows → rows.length ≤ 4000) ∧ (isGame d = true → Q .non L) ∧ (isGame d = false → E "BadGame" [] L)
theorem len_need_game : ∀ as L Q E, sp_need_game as L Q E → as.length = 1 := by rintro _ L Q E ⟨d, rfl, _⟩; rfl
def d_need_game : DS :=
  (sIf (dNot (dTest (dCall sp_is_game (dCons (dVar 0) dNil)))) (sRaise "BadGame") sNext)

theorem pure_need_game : ∀ as L Q E, sp_need_game as L Q E → d_need_game (fnEnds Q E) (dstart 1 as) L := by
  rintro as L Q E ⟨d, rfl, hk, h4, q1, q2⟩
  simp only [d_need_game, dVar, dC, dOp, dUn, dNil, dCons, dTup, dLst, dCB, dTest, dAnd, dOr, dNot, dAndV, dOrV, dNotV, dIfE, dChain, sNext, sSeq, sBreak, sCont, sDrop, sRet, sRetN, sIf, gdName, gdNil, gdCons, gdTup, gdSub, sAsg, dCall, xOf, sFor, dSeq, dRng1, dRng2, dI, dI0, dB0, dAdd, dIsN, dNotN, isNon, dIx, dSetL, dNeg, one, two, dLen1, dListOf1, dTupOf1, dAbs1, dIntOf1, dII, marg, dAppend1, dExtend1, dIsi, isA, dSl, dPart, dNoPart, dCut, dLc, dYes, sRaise, sTry, exBy, sPar2, sPar3, dIsBl, dNotBl, dBM, dBM0, dEq, dNe, dIn, dSgn, dIsiT2, isAny, dLenSet, dLstL, dOfE, dIxL, dCon, fLen, fTup, fSum, fMax, fMin, fAll, fAny, dEqLL, dNeLL, dLenSetL, dRefL, sTryN, exByN, goneD, withD, dXf, sRaiseF, dLc2, dEnum, dListRg1, dListRg2, dTupRg1, dTupRg2, dStrOf1, dRep, dstart, fnE_nx, fnE_rt, fnE_ex, Nat.zero_le, Nat.reduceLeDiff, decide_true, decide_false, true_or, or_true, false_or, or_false, decide_eq_true_eq, exists_eq_left', exists_eq_left, exists_eq_right, exists_eq_right', Option.some.injEq, List.cons.injEq, D.int.injEq, D.bl.injEq, D.str.injEq, D.tup.injEq, D.lro.injEq, D.ref.injEq, DO.lst.injEq, and_true, true_and, and_false, false_and, exists_false, exists_const, List.getElem?_cons_zero, List.getElem?_cons_succ, List.map_cons, List.map_nil, List.length_cons, List.length_nil, List.replicate_zero, List.replicate_succ, List.append_nil, List.cons_append, List.nil_append, List.set_cons_zero, List.set_cons_succ, Nat.reduceAdd, Nat.reduceSub, Nat.zero_add, reduceIte, Bool.false_eq_true, reduceCtorEq, if_true, if_false, Bool.not_true, Bool.not_false, exists_and_left, Bool.true_xor, Bool.false_xor]
  refine ⟨d, rfl, hk, h4, ?_⟩
  cases h : isGame d with
  | true => simp only [dVar, dC, dOp, dUn, dNil, dCons, dTup, dLst, dCB, dTest, dAnd, dOr, dNot, dAndV, dOrV, dNotV, dIfE, dChain, sNext, sSeq, sBreak, sCont, sDrop, sRet, sRetN, sIf, gdName, gdNil, gdCons, gdTup, gdSub, sAsg, dCall, xOf, sFor, dSeq, dRng1, dRng2, dI, dI0, dB0, dAdd, dIsN, dNotN, isNon, dIx, dSetL, dNeg, one, two, dLen1, dListOf1, dTupOf1, dAbs1, dIntOf1, dII, marg, dAppend1, dExtend1, dIsi, isA, dSl, dPart, dNoPart, dCut, dLc, dYes, sRaise, sTry, exBy, sPar2, sPar3, dIsBl, dNotBl, dBM, dBM0, dEq, dNe, dIn, dSgn, dIsiT2, isAny, dLenSet, dLstL, dOfE, dIxL, dCon, fLen, fTup, fSum, fMax, fMin, fAll, fAny, dEqLL, dNeLL, dLenSetL, dRefL, sTryN, exByN, goneD, withD, dXf, sRaiseF, dLc2, dEnum, dListRg1, dListRg2, dTupRg1, dTupRg2, dStrOf1, dRep, dstart, fnE_nx, fnE_rt, fnE_ex, Nat.zero_le, Nat.reduceLeDiff, decide_true, decide_false, true_or, or_true, false_or, or_false, decide_eq_true_eq, exists_eq_left', exists_eq_left, exists_eq_right, exists_eq_right', Option.some.injEq, List.cons.injEq, D.int.injEq, D.bl.injEq, D.str.injEq, D.tup.injEq, D.lro.injEq, D.ref.injEq, DO.lst.injEq, and_true, true_and, and_false, false_and, exists_false, exists_const, List.getElem?_cons_zero, List.getElem?_cons_succ, List.map_cons, List.map_nil, List.length_cons, List.length_nil, List.replicate_zero, List.replicate_succ, List.append_nil, List.cons_append, List.nil_append, List.set_cons_zero, List.set_cons_succ, Nat.reduceAdd, Nat.reduceSub, Nat.zero_add, reduceIte, Bool.false_eq_true, reduceCtorEq, if_true, if_false, Bool.not_true, Bool.not_false, exists_and_left, Bool.true_xor, Bool.false_xor]; exact endOf (q1 h)
  | false => simp only [dVar, dC, dOp, dUn, dNil, dCons, dTup, dLst, dCB, dTest, dAnd, dOr, dNot, dAndV, dOrV, dNotV, dIfE, dChain, sNext, sSeq, sBreak, sCont, sDrop, sRet, sRetN, sIf, gdName, gdNil, gdCons, gdTup, gdSub, sAsg, dCall, xOf, sFor, dSeq, dRng1, dRng2, dI, dI0, dB0, dAdd, dIsN, dNotN, isNon, dIx, dSetL, dNeg, one, two, dLen1, dListOf1, dTupOf1, dAbs1, dIntOf1, dII, marg, dAppend1, dExtend1, dIsi, isA, dSl, dPart, dNoPart, dCut, dLc, dYes, sRaise, sTry, exBy, sPar2, sPar3, dIsBl, dNotBl, dBM, dBM0, dEq, dNe, dIn, dSgn, dIsiT2, isAny, dLenSet, dLstL, dOfE, dIxL, dCon, fLen, fTup, fSum, fMax, fMin, fAll, fAny, dEqLL, dNeLL, dLenSetL, dRefL, sTryN, exByN, goneD, withD, dXf, sRaiseF, dLc2, dEnum, dListRg1, dListRg2, dTupRg1, dTupRg2, dStrOf1, dRep, dstart, fnE_nx, fnE_rt, fnE_ex, Nat.zero_le, Nat.reduceLeDiff, decide_true, decide_false, true_or, or_true, false_or, or_false, decide_eq_true_eq, exists_eq_left', exists_eq_left, exists_eq_right, exists_eq_right', Option.some.injEq, List.cons.injEq, D.int.injEq, D.bl.injEq, D.str.injEq, D.tup.injEq, D.lro.injEq, D.ref.injEq, DO.lst.injEq, and_true, true_and, and_false, false_and, exists_false, exists_const, List.getElem?_cons_zero, List.getElem?_cons_succ, List.map_cons, List.map_nil, List.length_cons, List.length_nil, List.replicate_zero, List.replicate_succ, List.append_nil, List.cons_append, List.nil_append, List.set_cons_zero, List.set_cons_succ, Nat.reduceAdd, Nat.reduceSub, Nat.zero_add, reduceIte, Bool.false_eq_true, reduceCtorEq, if_true, if_false, Bool.not_true, Bool.not_false, exists_and_left, Bool.true_xor, Bool.false_xor]; exact endX (q2 h)
end D2

set_option Elab.async false
set_option linter.all false
set_option maxRecDepth 100000
set_option maxHeartbeats 1000000
namespace D2
open PySem PySem.Spec PyProof.Rows L2
/-! ### the jug of draws -/
structure JugAt (n : Nat) (L : DH) (a b : Addr) : Prop where
  ne : b ≠ a
  cells : ∃ cells : List Int, L b = some (.lst (cells.map .int))
  row : ∃ at_ cell : Int, L a = some (.lst [.ref b, .int at_, .int cell]) ∧ 0 ≤ at_ ∧ at_ ≤ n ∧ 0 ≤ cell
theorem JugAt.mono {n m : Nat} {L : DH} {a b : Addr} (h : JugAt n L a b) (l : n ≤ m) : JugAt m L a b :=
  let ⟨x, y, h1, h2, h3, h4⟩ := h.row; ⟨h.ne, h.cells, x, y, h1, h2, by omega, h4⟩
theorem JugAt.off {n : Nat} {L : DH} {a b u : Addr} {o : DO} (h : JugAt n L a b) (ha : u ≠ a) (hb : u ≠ b) : JugAt n (upd L u o) a b :=
  let ⟨cs, e⟩ := h.cells; let ⟨x, y, h1, h2⟩ := h.row; ⟨h.ne, ⟨cs, by rw [updD_ne (Ne.symm hb)]; exact e⟩, x, y, by rw [updD_ne (Ne.symm ha)]; exact h1, h2⟩
theorem JugAt.new {n : Nat} {L : DH} {a b u : Addr} {o : DO} (h : JugAt n L a b) (hu : L u = none) : u ≠ a ∧ u ≠ b ∧ JugAt n (upd L u o) a b := by
  obtain ⟨cs, e⟩ := h.cells
  obtain ⟨x, y, h1, h2⟩ := h.row
  have ha : u ≠ a := by rintro rfl; rw [hu] at h1; cases h1
  have hb : u ≠ b := by rintro rfl; rw [hu] at e; cases e
  exact ⟨ha, hb, h.off ha hb⟩
theorem JugAt.le {n : Nat} {L L' : DH} {a b : Addr} (h : JugAt n L a b) (l : Le L L') : JugAt n L' a b :=
  let ⟨cs, e⟩ := h.cells; let ⟨x, y, h1, h2⟩ := h.row; ⟨h.ne, ⟨cs, l _ _ e⟩, x, y, l _ _ h1, h2⟩
def sp_law_jug : SpD := fun ds L Q _ => ∃ ns : List Int, ds = [.lro (ns.map .int)] ∧ ns.length ≤ 1000 ∧ ∀ a b L', JugAt 0 L' a b → Le L L' → L a = none → Q (.ref a) L'
theorem len_law_jug : ∀ as L Q E, sp_law_jug as L Q E → as.length = 1 := by rintro _ L Q E ⟨p, rfl, _⟩; rfl
def d__law_jug : DS :=
  (sRet (dLst (dCons (dCB dListOf (dCons (dVar 0) dNil)) (dCons (dC (.int 0)) (dCons (dC (.int 0)) dNil)))))

theorem pure_law_jug : ∀ as L Q E, sp_law_jug as L Q E → d__law_jug (fnEnds Q E) (dstart 1 as) L := by
  rintro as L Q E ⟨ns, rfl, hl, q⟩
  simp only [d__law_jug, dVar, dC, dOp, dUn, dNil, dCons, dTup, dLst, dCB, dTest, dAnd, dOr, dNot, dAndV, dOrV, dNotV, dIfE, dChain, sNext, sSeq, sBreak, sCont, sDrop, sRet, sRetN, sIf, gdName, gdNil, gdCons, gdTup, gdSub, sAsg, dCall, xOf, sFor, dSeq, dRng1, dRng2, dI, dI0, dB0, dAdd, dIsN, dNotN, isNon, dIx, dSetL, dNeg, one, two, dLen1, dListOf1, dTupOf1, dAbs1, dIntOf1, dII, marg, dAppend1, dExtend1, dIsi, isA, dSl, dPart, dNoPart, dCut, dLc, dYes, sRaise, sTry, exBy, sPar2, sPar3, dIsBl, dNotBl, dBM, dBM0, dEq, dNe, dIn, dSgn, dIsiT2, isAny, dLenSet, dLstL, dOfE, dIxL, dCon, fLen, fTup, fSum, fMax, fMin, fAll, fAny, dEqLL, dNeLL, dLenSetL, dRefL, sTryN, exByN, goneD, withD, dXf, sRaiseF, dLc2, dEnum, dListRg1, dListRg2, dTupRg1, dTupRg2, dStrOf1, dRep, dstart, fnE_nx, fnE_rt, fnE_ex, Nat.zero_le, Nat.reduceLeDiff, decide_true, decide_false, true_or, or_true, false_or, or_false, decide_eq_true_eq, exists_eq_left', exists_eq_left, exists_eq_right, exists_eq_right', Option.some.injEq, List.cons.injEq, D.int.injEq, D.bl.injEq, D.str.injEq, D.tup.injEq, D.lro.injEq, D.ref.injEq, DO.lst.injEq, and_true, true_and, and_false, false_and, exists_false, exists_const, List.getElem?_cons_zero, List.getElem?_cons_succ, List.map_cons, List.map_nil, List.length_cons, List.length_nil, List.replicate_zero, List.replicate_succ, List.append_nil, List.cons_append, List.nil_append, List.set_cons_zero, List.set_cons_succ, Nat.reduceAdd, Nat.reduceSub, Nat.zero_add, reduceIte, Bool.false_eq_true, reduceCtorEq, if_true, if_false, Bool.not_true, Bool.not_false, exists_and_left, Bool.true_xor, Bool.false_xor]
  intro p hp p2 hp2
  have hne : p ≠ p2 := fresh_ne updD_same hp2
  have hp2' : L p2 = none := by rwa [updD_ne (Ne.symm hne)] at hp2
  refine ⟨_, Le.refl, q p2 p _ ⟨hne, ⟨ns, by rw [updD_ne hne, updD_same]⟩, 0, 0, updD_same, by decide, by decide, by decide⟩ ((Le.upd hp).trans (Le.upd hp2)) hp2'⟩
def sp_law_take : SpD := fun ds L Q _ => ∃ (a b : Addr) (m : Int) (n : Nat), ds = [.ref a, .int m] ∧ JugAt n L a b ∧ n ≤ 1000000000 ∧ 1 ≤ m ∧ m ≤ 10 ^ 60 ∧ ∀ r o, 0 ≤ r → r < m → JugAt (n + 1) (upd L a o) a b → Q (.int r) (upd L a o)
theorem len_law_take : ∀ as L Q E, sp_law_take as L Q E → as.length = 2 := by rintro _ L Q E ⟨a, b, m, n, rfl, _⟩; rfl
def d__law_take_t0a5 : DS :=
  (sAsg (dVar 4) (gdSub (dVar 0) (dC (.int 2)) dSetL))
def d__law_take_t0a4 : DS :=
  (sSeq (sAsg (dOp dAdd (dVar 3) (dC (.int 1))) (gdSub (dVar 0) (dC (.int 1)) dSetL)) d__law_take_t0a5)
def d__law_take_t0a3 : DS :=
  (sSeq (sIf (dTest (dOp dLt (dVar 4) (dOp dPow (dC (.int 10)) (dC (.int 18))))) (sAsg (dOp dMod (dCB dIntOf (dCons (dOp dPow (dOp dAdd (dOp dAdd (dOp dMulI (dVar 4) (dC (.int 2654435761))) (dOp dMulI (dVar 3) (dC (.int 40503)))) (dC (.int 977))) (dC (.int 3))) dNil)) (dC (.int 618970019642690137449562111))) (gdName 4)) sNext) d__law_take_t0a4)
def d__law_take_t0a2 : DS :=
  (sSeq (sIf (dTest (dOp dLt (dVar 3) (dCB dLen (dCons (dOp dIx (dVar 0) (dC (.int 0))) dNil)))) (sAsg (dOp dAdd (dOp dMulI (dC (.int 2)) (dCB dAbs (dCons (dOp dIx (dOp dIx (dVar 0) (dC (.int 0))) (dVar 3)) dNil))) (dCB dIntOf (dCons (dOp dLt (dOp dIx (dOp dIx (dVar 0) (dC (.int 0))) (dVar 3)) (dC (.int 0))) dNil))) (gdName 4)) sNext) d__law_take_t0a3)
def d__law_take_t0a1 : DS :=
  (sSeq (sAsg (dOp dAdd (dOp dMulI (dC (.int 3)) (dVar 3)) (dC (.int 5))) (gdName 4)) d__law_take_t0a2)
def d__law_take_t3 : DS :=
  (sRet (dVar 2))
def d__law_take_t2 : DS :=
  (sSeq (sAsg (dOp dDiv (dOp dIx (dVar 0) (dC (.int 2))) (dVar 1)) (gdSub (dVar 0) (dC (.int 2)) dSetL)) d__law_take_t3)
def d__law_take_t1 : DS :=
  (sSeq (sAsg (dOp dMod (dCB dIntOf (dCons (dOp dIx (dVar 0) (dC (.int 2))) dNil)) (dVar 1)) (gdName 2)) d__law_take_t2)
def d__law_take : DS :=
  (sSeq (sIf (dTest (dOp dEq (dOp dIx (dVar 0) (dC (.int 2))) (dC (.int 0)))) (sSeq (sAsg (dOp dIx (dVar 0) (dC (.int 1))) (gdName 3)) d__law_take_t0a1) sNext) d__law_take_t1)

theorem cdiv_big {i j : Int} (h1 : 1 ≤ j) (h2 : j ≤ 10 ^ 60) : CDivW i j := by
  have : (10 : Int) ^ 60 < 2 ^ 200 := by decide
  exact wide_div (b := 200) (by omega) (by omega) (by decide) (by decide)
theorem atI_ints {ns : List Int} {i : Int} (h0 : 0 ≤ i) (h1 : i < ns.length) : ∃ x, atI (ns.map D.int) i = some (.int x) ∧ x ∈ ns := by
  obtain ⟨d, e, _, hd⟩ := atI_in (xs := ns.map D.int) h0 (by simpa using h1)
  obtain ⟨x, hx, rfl⟩ := List.mem_map.mp hd
  exact ⟨x, e, hx⟩
theorem atJ0 {a b c : D} : atI [a, b, c] 0 = some a := rfl
theorem atJ1 {a b c : D} : atI [a, b, c] 1 = some b := rfl
theorem atJ2 {a b c : D} : atI [a, b, c] 2 = some c := rfl
theorem ixJ1 : ixN 3 1 = some 1 := rfl
theorem ixJ2 : ixN 3 2 = some 2 := rfl
theorem cpow3 {i : Int} (h : i.natAbs < 2 ^ 200) : CPowW i 3 := by
  refine ⟨by decide, ?_⟩
  have b : Builtin.Int.intBits i ≤ i.natAbs.log2 + 1 := by
    unfold Builtin.Int.intBits
    split <;> omega
  have := PySem.Flt.log2_lt_of (by decide) h
  omega
theorem take_half {a b : Addr} {m : Int} {n : Nat} {L : DH} {Q : DK} {E : XD} (hne : b ≠ a) {cells : List Int} (hb : L b = some (.lst (cells.map .int))) (m1 : 1 ≤ m) (m2 : m ≤ 10 ^ 60)
    (q : ∀ (r : Int) (o : DO), 0 ≤ r → r < m → JugAt (n + 1) (upd L a o) a b → Q (.int r) (upd L a o)) (L1 : DH) (hu : ∀ o, upd L1 a o = upd L a o) (t c : Int) (ha : L1 a = some (.lst [.ref b, .int t, .int c]))
    (t0 : 0 ≤ t) (t1 : t ≤ n + 1) (c0 : 0 ≤ c) (s2 s3 s4 : Option D) : d__law_take_t1 (fnEnds Q E) [some (.ref a), some (.int m), s2, s3, s4] L1 := by
  simp only [d__law_take_t1, d__law_take_t2, d__law_take_t3, dVar, dC, dOp, dUn, dNil, dCons, dTup, dLst, dCB, dTest, dAnd, dOr, dNot, dAndV, dOrV, dNotV, dIfE, dChain, sNext, sSeq, sBreak, sCont, sDrop, sRet, sRetN, sIf, gdName, gdNil, gdCons, gdTup, gdSub, sAsg, dCall, xOf, sFor, dSeq, dRng1, dRng2, dI, dI0, dB0, dAdd, dIsN, dNotN, isNon, dIx, dSetL, dNeg, one, two, dLen1, dListOf1, dTupOf1, dAbs1, dIntOf1, dII, marg, dAppend1, dExtend1, dIsi, isA, dSl, dPart, dNoPart, dCut, dLc, dYes, sRaise, sTry, exBy, sPar2, sPar3, dIsBl, dNotBl, dBM, dBM0, dEq, dNe, dIn, dSgn, dIsiT2, isAny, dLenSet, dLstL, dOfE, dIxL, dCon, fLen, fTup, fSum, fMax, fMin, fAll, fAny, dEqLL, dNeLL, dLenSetL, dRefL, sTryN, exByN, goneD, withD, dXf, sRaiseF, dLc2, dEnum, dListRg1, dListRg2, dTupRg1, dTupRg2, dStrOf1, dRep, dstart, fnE_nx, fnE_rt, fnE_ex, Nat.zero_le, Nat.reduceLeDiff, decide_true, decide_false, true_or, or_true, false_or, or_false, decide_eq_true_eq, exists_eq_left', exists_eq_left, exists_eq_right, exists_eq_right', Option.some.injEq, List.cons.injEq, D.int.injEq, D.bl.injEq, D.str.injEq, D.tup.injEq, D.lro.injEq, D.ref.injEq, DO.lst.injEq, and_true, true_and, and_false, false_and, exists_false, exists_const, List.getElem?_cons_zero, List.getElem?_cons_succ, List.map_cons, List.map_nil, List.length_cons, List.length_nil, List.replicate_zero, List.replicate_succ, List.append_nil, List.cons_append, List.nil_append, List.set_cons_zero, List.set_cons_succ, Nat.reduceAdd, Nat.reduceSub, Nat.zero_add, reduceIte, Bool.false_eq_true, reduceCtorEq, if_true, if_false, Bool.not_true, Bool.not_false, exists_and_left, Bool.true_xor, Bool.false_xor, ha, atJ2, ixJ2]
  refine ⟨by omega, cdiv_big m1 m2, ?_⟩
  rw [hu]
  exact endOf (q (c % m) _ (Int.emod_nonneg _ (by omega)) (Int.emod_lt_of_pos _ (by omega)) ⟨hne, ⟨cells, by rw [updD_ne hne]; exact hb⟩, t, c / m, updD_same, t0, by push_cast; omega, Int.ediv_nonneg c0 (by omega)⟩)
theorem pure_law_take : ∀ as L Q E, sp_law_take as L Q E → d__law_take (fnEnds Q E) (dstart 5 as) L := by
  rintro as L Q E ⟨a, b, m, n, rfl, ⟨hne, ⟨cells, hb⟩, t, c, ha, t0, t1, c0⟩, hn, m1, m2, q⟩
  simp only [d__law_take, dVar, dC, dOp, dUn, dNil, dCons, dTup, dLst, dCB, dTest, dAnd, dOr, dNot, dAndV, dOrV, dNotV, dIfE, dChain, sNext, sSeq, sBreak, sCont, sDrop, sRet, sRetN, sIf, gdName, gdNil, gdCons, gdTup, gdSub, sAsg, dCall, xOf, sFor, dSeq, dRng1, dRng2, dI, dI0, dB0, dAdd, dIsN, dNotN, isNon, dIx, dSetL, dNeg, one, two, dLen1, dListOf1, dTupOf1, dAbs1, dIntOf1, dII, marg, dAppend1, dExtend1, dIsi, isA, dSl, dPart, dNoPart, dCut, dLc, dYes, sRaise, sTry, exBy, sPar2, sPar3, dIsBl, dNotBl, dBM, dBM0, dEq, dNe, dIn, dSgn, dIsiT2, isAny, dLenSet, dLstL, dOfE, dIxL, dCon, fLen, fTup, fSum, fMax, fMin, fAll, fAny, dEqLL, dNeLL, dLenSetL, dRefL, sTryN, exByN, goneD, withD, dXf, sRaiseF, dLc2, dEnum, dListRg1, dListRg2, dTupRg1, dTupRg2, dStrOf1, dRep, dstart, fnE_nx, fnE_rt, fnE_ex, Nat.zero_le, Nat.reduceLeDiff, decide_true, decide_false, true_or, or_true, false_or, or_false, decide_eq_true_eq, exists_eq_left', exists_eq_left, exists_eq_right, exists_eq_right', Option.some.injEq, List.cons.injEq, D.int.injEq, D.bl.injEq, D.str.injEq, D.tup.injEq, D.lro.injEq, D.ref.injEq, DO.lst.injEq, and_true, true_and, and_false, false_and, exists_false, exists_const, List.getElem?_cons_zero, List.getElem?_cons_succ, List.map_cons, List.map_nil, List.length_cons, List.length_nil, List.replicate_zero, List.replicate_succ, List.append_nil, List.cons_append, List.nil_append, List.set_cons_zero, List.set_cons_succ, Nat.reduceAdd, Nat.reduceSub, Nat.zero_add, reduceIte, Bool.false_eq_true, reduceCtorEq, if_true, if_false, Bool.not_true, Bool.not_false, exists_and_left, Bool.true_xor, Bool.false_xor, ha, atJ2, eqD_int]
  have half := take_half (E := E) hne hb m1 m2 q
  split
  · refine ⟨_, atJ1, ?_⟩
    simp only [d__law_take_t0a1, dVar, dC, dOp, dUn, dNil, dCons, dTup, dLst, dCB, dTest, dAnd, dOr, dNot, dAndV, dOrV, dNotV, dIfE, dChain, sNext, sSeq, sBreak, sCont, sDrop, sRet, sRetN, sIf, gdName, gdNil, gdCons, gdTup, gdSub, sAsg, dCall, xOf, sFor, dSeq, dRng1, dRng2, dI, dI0, dB0, dAdd, dIsN, dNotN, isNon, dIx, dSetL, dNeg, one, two, dLen1, dListOf1, dTupOf1, dAbs1, dIntOf1, dII, marg, dAppend1, dExtend1, dIsi, isA, dSl, dPart, dNoPart, dCut, dLc, dYes, sRaise, sTry, exBy, sPar2, sPar3, dIsBl, dNotBl, dBM, dBM0, dEq, dNe, dIn, dSgn, dIsiT2, isAny, dLenSet, dLstL, dOfE, dIxL, dCon, fLen, fTup, fSum, fMax, fMin, fAll, fAny, dEqLL, dNeLL, dLenSetL, dRefL, sTryN, exByN, goneD, withD, dXf, sRaiseF, dLc2, dEnum, dListRg1, dListRg2, dTupRg1, dTupRg2, dStrOf1, dRep, dstart, fnE_nx, fnE_rt, fnE_ex, Nat.zero_le, Nat.reduceLeDiff, decide_true, decide_false, true_or, or_true, false_or, or_false, decide_eq_true_eq, exists_eq_left', exists_eq_left, exists_eq_right, exists_eq_right', Option.some.injEq, List.cons.injEq, D.int.injEq, D.bl.injEq, D.str.injEq, D.tup.injEq, D.lro.injEq, D.ref.injEq, DO.lst.injEq, and_true, true_and, and_false, false_and, exists_false, exists_const, List.getElem?_cons_zero, List.getElem?_cons_succ, List.map_cons, List.map_nil, List.length_cons, List.length_nil, List.replicate_zero, List.replicate_succ, List.append_nil, List.cons_append, List.nil_append, List.set_cons_zero, List.set_cons_succ, Nat.reduceAdd, Nat.reduceSub, Nat.zero_add, reduceIte, Bool.false_eq_true, reduceCtorEq, if_true, if_false, Bool.not_true, Bool.not_false, exists_and_left, Bool.true_xor, Bool.false_xor]
    refine ⟨cmul_l (by decide) (by decide), ?_⟩
    have e18 : (10 : Int) ^ (18 : Int).toNat = 1000000000000000000 := by decide
    have a4 : ∀ v : Int, 0 ≤ v → d__law_take_t0a4 { fnEnds Q E with nx := d__law_take_t1 (fnEnds Q E) } [some (.ref a), some (.int m), none, some (.int t), some (.int v)] L := by
      intro v v0
      simp only [d__law_take_t0a4, d__law_take_t0a5, dVar, dC, dOp, dUn, dNil, dCons, dTup, dLst, dCB, dTest, dAnd, dOr, dNot, dAndV, dOrV, dNotV, dIfE, dChain, sNext, sSeq, sBreak, sCont, sDrop, sRet, sRetN, sIf, gdName, gdNil, gdCons, gdTup, gdSub, sAsg, dCall, xOf, sFor, dSeq, dRng1, dRng2, dI, dI0, dB0, dAdd, dIsN, dNotN, isNon, dIx, dSetL, dNeg, one, two, dLen1, dListOf1, dTupOf1, dAbs1, dIntOf1, dII, marg, dAppend1, dExtend1, dIsi, isA, dSl, dPart, dNoPart, dCut, dLc, dYes, sRaise, sTry, exBy, sPar2, sPar3, dIsBl, dNotBl, dBM, dBM0, dEq, dNe, dIn, dSgn, dIsiT2, isAny, dLenSet, dLstL, dOfE, dIxL, dCon, fLen, fTup, fSum, fMax, fMin, fAll, fAny, dEqLL, dNeLL, dLenSetL, dRefL, sTryN, exByN, goneD, withD, dXf, sRaiseF, dLc2, dEnum, dListRg1, dListRg2, dTupRg1, dTupRg2, dStrOf1, dRep, dstart, fnE_nx, fnE_rt, fnE_ex, Nat.zero_le, Nat.reduceLeDiff, decide_true, decide_false, true_or, or_true, false_or, or_false, decide_eq_true_eq, exists_eq_left', exists_eq_left, exists_eq_right, exists_eq_right', Option.some.injEq, List.cons.injEq, D.int.injEq, D.bl.injEq, D.str.injEq, D.tup.injEq, D.lro.injEq, D.ref.injEq, DO.lst.injEq, and_true, true_and, and_false, false_and, exists_false, exists_const, List.getElem?_cons_zero, List.getElem?_cons_succ, List.map_cons, List.map_nil, List.length_cons, List.length_nil, List.replicate_zero, List.replicate_succ, List.append_nil, List.cons_append, List.nil_append, List.set_cons_zero, List.set_cons_succ, Nat.reduceAdd, Nat.reduceSub, Nat.zero_add, reduceIte, Bool.false_eq_true, reduceCtorEq, if_true, if_false, Bool.not_true, Bool.not_false, exists_and_left, Bool.true_xor, Bool.false_xor, ha, ixJ1, updD_same, ixJ2]
      exact half _ (fun o => by rw [updD_upd, updD_upd]) (t + 1) v updD_same (by omega) (by omega) v0 _ _ _
    have a3 : ∀ v : Int, 0 ≤ v → d__law_take_t0a3 { fnEnds Q E with nx := d__law_take_t1 (fnEnds Q E) } [some (.ref a), some (.int m), none, some (.int t), some (.int v)] L := by
      intro v v0
      simp only [d__law_take_t0a3, dVar, dC, dOp, dUn, dNil, dCons, dTup, dLst, dCB, dTest, dAnd, dOr, dNot, dAndV, dOrV, dNotV, dIfE, dChain, sNext, sSeq, sBreak, sCont, sDrop, sRet, sRetN, sIf, gdName, gdNil, gdCons, gdTup, gdSub, sAsg, dCall, xOf, sFor, dSeq, dRng1, dRng2, dI, dI0, dB0, dAdd, dIsN, dNotN, isNon, dIx, dSetL, dNeg, one, two, dLen1, dListOf1, dTupOf1, dAbs1, dIntOf1, dII, marg, dAppend1, dExtend1, dIsi, isA, dSl, dPart, dNoPart, dCut, dLc, dYes, sRaise, sTry, exBy, sPar2, sPar3, dIsBl, dNotBl, dBM, dBM0, dEq, dNe, dIn, dSgn, dIsiT2, isAny, dLenSet, dLstL, dOfE, dIxL, dCon, fLen, fTup, fSum, fMax, fMin, fAll, fAny, dEqLL, dNeLL, dLenSetL, dRefL, sTryN, exByN, goneD, withD, dXf, sRaiseF, dLc2, dEnum, dListRg1, dListRg2, dTupRg1, dTupRg2, dStrOf1, dRep, dstart, fnE_nx, fnE_rt, fnE_ex, Nat.zero_le, Nat.reduceLeDiff, decide_true, decide_false, true_or, or_true, false_or, or_false, decide_eq_true_eq, exists_eq_left', exists_eq_left, exists_eq_right, exists_eq_right', Option.some.injEq, List.cons.injEq, D.int.injEq, D.bl.injEq, D.str.injEq, D.tup.injEq, D.lro.injEq, D.ref.injEq, DO.lst.injEq, and_true, true_and, and_false, false_and, exists_false, exists_const, List.getElem?_cons_zero, List.getElem?_cons_succ, List.map_cons, List.map_nil, List.length_cons, List.length_nil, List.replicate_zero, List.replicate_succ, List.append_nil, List.cons_append, List.nil_append, List.set_cons_zero, List.set_cons_succ, Nat.reduceAdd, Nat.reduceSub, Nat.zero_add, reduceIte, Bool.false_eq_true, reduceCtorEq, if_true, if_false, Bool.not_true, Bool.not_false, exists_and_left, Bool.true_xor, Bool.false_xor, e18]
      refine ⟨⟨by decide, by decide⟩, ?_⟩
      split
      · rename_i hv
        have w1 : (v * 2654435761 + t * 40503 + 977).natAbs < 2 ^ 200 := by omega
        exact ⟨cmul_r (by decide) (by decide), cmul_r (by decide) (by decide), cpow3 w1, by decide, a4 _ (Int.emod_nonneg _ (by decide))⟩
      · exact a4 v v0
    simp only [d__law_take_t0a2, dVar, dC, dOp, dUn, dNil, dCons, dTup, dLst, dCB, dTest, dAnd, dOr, dNot, dAndV, dOrV, dNotV, dIfE, dChain, sNext, sSeq, sBreak, sCont, sDrop, sRet, sRetN, sIf, gdName, gdNil, gdCons, gdTup, gdSub, sAsg, dCall, xOf, sFor, dSeq, dRng1, dRng2, dI, dI0, dB0, dAdd, dIsN, dNotN, isNon, dIx, dSetL, dNeg, one, two, dLen1, dListOf1, dTupOf1, dAbs1, dIntOf1, dII, marg, dAppend1, dExtend1, dIsi, isA, dSl, dPart, dNoPart, dCut, dLc, dYes, sRaise, sTry, exBy, sPar2, sPar3, dIsBl, dNotBl, dBM, dBM0, dEq, dNe, dIn, dSgn, dIsiT2, isAny, dLenSet, dLstL, dOfE, dIxL, dCon, fLen, fTup, fSum, fMax, fMin, fAll, fAny, dEqLL, dNeLL, dLenSetL, dRefL, sTryN, exByN, goneD, withD, dXf, sRaiseF, dLc2, dEnum, dListRg1, dListRg2, dTupRg1, dTupRg2, dStrOf1, dRep, dstart, fnE_nx, fnE_rt, fnE_ex, Nat.zero_le, Nat.reduceLeDiff, decide_true, decide_false, true_or, or_true, false_or, or_false, decide_eq_true_eq, exists_eq_left', exists_eq_left, exists_eq_right, exists_eq_right', Option.some.injEq, List.cons.injEq, D.int.injEq, D.bl.injEq, D.str.injEq, D.tup.injEq, D.lro.injEq, D.ref.injEq, DO.lst.injEq, and_true, true_and, and_false, false_and, exists_false, exists_const, List.getElem?_cons_zero, List.getElem?_cons_succ, List.map_cons, List.map_nil, List.length_cons, List.length_nil, List.replicate_zero, List.replicate_succ, List.append_nil, List.cons_append, List.nil_append, List.set_cons_zero, List.set_cons_succ, Nat.reduceAdd, Nat.reduceSub, Nat.zero_add, reduceIte, Bool.false_eq_true, reduceCtorEq, if_true, if_false, Bool.not_true, Bool.not_false, exists_and_left, Bool.true_xor, Bool.false_xor, ha, hb, atJ0]
    split
    · rename_i ht
      obtain ⟨v, hv, _⟩ := atI_ints (ns := cells) t0 (by simpa using ht)
      refine ⟨_, hv, cmul_l (by decide) (by decide), _, hv, ?_⟩
      simp only [dVar, dC, dOp, dUn, dNil, dCons, dTup, dLst, dCB, dTest, dAnd, dOr, dNot, dAndV, dOrV, dNotV, dIfE, dChain, sNext, sSeq, sBreak, sCont, sDrop, sRet, sRetN, sIf, gdName, gdNil, gdCons, gdTup, gdSub, sAsg, dCall, xOf, sFor, dSeq, dRng1, dRng2, dI, dI0, dB0, dAdd, dIsN, dNotN, isNon, dIx, dSetL, dNeg, one, two, dLen1, dListOf1, dTupOf1, dAbs1, dIntOf1, dII, marg, dAppend1, dExtend1, dIsi, isA, dSl, dPart, dNoPart, dCut, dLc, dYes, sRaise, sTry, exBy, sPar2, sPar3, dIsBl, dNotBl, dBM, dBM0, dEq, dNe, dIn, dSgn, dIsiT2, isAny, dLenSet, dLstL, dOfE, dIxL, dCon, fLen, fTup, fSum, fMax, fMin, fAll, fAny, dEqLL, dNeLL, dLenSetL, dRefL, sTryN, exByN, goneD, withD, dXf, sRaiseF, dLc2, dEnum, dListRg1, dListRg2, dTupRg1, dTupRg2, dStrOf1, dRep, dstart, fnE_nx, fnE_rt, fnE_ex, Nat.zero_le, Nat.reduceLeDiff, decide_true, decide_false, true_or, or_true, false_or, or_false, decide_eq_true_eq, exists_eq_left', exists_eq_left, exists_eq_right, exists_eq_right', Option.some.injEq, List.cons.injEq, D.int.injEq, D.bl.injEq, D.str.injEq, D.tup.injEq, D.lro.injEq, D.ref.injEq, DO.lst.injEq, and_true, true_and, and_false, false_and, exists_false, exists_const, List.getElem?_cons_zero, List.getElem?_cons_succ, List.map_cons, List.map_nil, List.length_cons, List.length_nil, List.replicate_zero, List.replicate_succ, List.append_nil, List.cons_append, List.nil_append, List.set_cons_zero, List.set_cons_succ, Nat.reduceAdd, Nat.reduceSub, Nat.zero_add, reduceIte, Bool.false_eq_true, reduceCtorEq, if_true, if_false, Bool.not_true, Bool.not_false, exists_and_left, Bool.true_xor, Bool.false_xor]
      refine a3 _ ?_
      split <;> omega
    · exact a3 _ (by omega)
  · exact half L (fun _ => rfl) t c ha t0 (by omega) c0 _ _ _
theorem big_take {m : Int} (h : m ≤ 1000000000) : m ≤ 10 ^ 60 := big_m h
theorem in_ints {L : DH} {u : Addr} {zs : List Int} (h : L u = some (.lst (zs.map .int))) (z : Int) : inD L (.int z) (.ref u) = some (decide (z ∈ zs)) := by
  rw [inD_of (itemsOf_ref h) (optAll_ints 59 zs) (pyL_int 60 z)]
  congr 1
  rw [List.any_map, Bool.eq_iff_iff, List.any_eq_true, decide_eq_true_eq]
  constructor
  · rintro ⟨x, hx, e⟩
    have e : (x == z) = true := e
    rw [← eq_of_beq e]; exact hx
  · exact fun hz => ⟨z, hz, by show (z == z) = true; simp⟩
theorem in_intsT {L : DH} {zs : List Int} (z : Int) : inD L (.int z) (.tup (zs.map .int)) = some (decide (z ∈ zs)) := by
  rw [inD_of (ys := zs.map .int) rfl (optAll_ints 59 zs) (pyL_int 60 z)]
  congr 1
  rw [List.any_map, Bool.eq_iff_iff, List.any_eq_true, decide_eq_true_eq]
  constructor
  · rintro ⟨x, hx, e⟩
    have e : (x == z) = true := e
    rw [← eq_of_beq e]; exact hx
  · exact fun hz => ⟨z, hz, by show (z == z) = true; simp⟩
def sp_law_marks : SpD := fun ds L Q _ => ∃ (a b : Addr) (n : Nat) (most : Int), ds = [.ref a, .int most] ∧ JugAt n L a b ∧ n ≤ 900000000 ∧ 1 ≤ most ∧ most ≤ 1000 ∧
  ∀ (p : Addr) (ms : List Int) (L' : DH), Ext a L L' → JugAt (n + 10000) L' a b → p ≠ a → p ≠ b → L p = none → L' p = some (.lst (ms.map D.int)) → 1 ≤ ms.length → (ms.length : Int) ≤ most → ms.Nodup → (∀ m, m ∈ ms → 0 ≤ m) → Q (.ref p) L'
theorem len_law_marks : ∀ as L Q E, sp_law_marks as L Q E → as.length = 2 := by rintro _ L Q E ⟨a, b, n, m, rfl, _⟩; rfl
def d__law_marks_t2b1 : DS :=
  (sIf (dTest (dOp (dIn true) (dVar 5) (dVar 2))) (sDrop (dBM chkL (marg dAppend1) (dVar 2) (dCons (dVar 5) dNil))) sNext)
def d__law_marks_b2 : DS :=
  (sSeq (sAsg (dIxL (dLstL (dCons (dCall sp_law_take (dCons (dVar 0) (dCons (dC (.int 7)) dNil))) (dCons (dOp dMulI (dCall sp_law_take (dCons (dVar 0) (dCons (dC (.int 40)) dNil))) (dC (.int 5))) (dCons (dOp dAdd (dOp dPow (dC (.int 10)) (dC (.int 30))) (dCall sp_law_take (dCons (dVar 0) (dCons (dOp dPow (dC (.int 10)) (dC (.int 9))) dNil)))) (dCons (dCall sp_law_take (dCons (dVar 0) (dCons (dC (.int 3)) dNil))) dNil))))) (dVar 3)) (gdName 5)) d__law_marks_t2b1)
def d__law_marks_t3 : DS :=
  (sRet (dVar 2))
def d__law_marks_t2 : DS :=
  (sSeq (sFor (dRng1 (dCons (dOp dAdd (dC (.int 1)) (dCall sp_law_take (dCons (dVar 0) (dCons (dVar 1) dNil)))) dNil)) (gdName 4)
  d__law_marks_b2) d__law_marks_t3)
def d__law_marks_t1 : DS :=
  (sSeq (sAsg (dCall sp_law_take (dCons (dVar 0) (dCons (dC (.int 4)) dNil))) (gdName 3)) d__law_marks_t2)
def d__law_marks : DS :=
  (sSeq (sAsg (dLst dNil) (gdName 2)) d__law_marks_t1)

theorem pure_law_marks : ∀ as L Q E, sp_law_marks as L Q E → d__law_marks (fnEnds Q E) (dstart 6 as) L := by
  rintro as L Q E ⟨a, b, n, most, rfl, hj, hn, m0, m1, q⟩
  simp only [d__law_marks, dVar, dC, dOp, dUn, dNil, dCons, dTup, dLst, dCB, dTest, dAnd, dOr, dNot, dAndV, dOrV, dNotV, dIfE, dChain, sNext, sSeq, sBreak, sCont, sDrop, sRet, sRetN, sIf, gdName, gdNil, gdCons, gdTup, gdSub, sAsg, dCall, xOf, sFor, dSeq, dRng1, dRng2, dI, dI0, dB0, dAdd, dIsN, dNotN, isNon, dIx, dSetL, dNeg, one, two, dLen1, dListOf1, dTupOf1, dAbs1, dIntOf1, dII, marg, dAppend1, dExtend1, dIsi, isA, dSl, dPart, dNoPart, dCut, dLc, dYes, sRaise, sTry, exBy, sPar2, sPar3, dIsBl, dNotBl, dBM, dBM0, dEq, dNe, dIn, dSgn, dIsiT2, isAny, dLenSet, dLstL, dOfE, dIxL, dCon, fLen, fTup, fSum, fMax, fMin, fAll, fAny, dEqLL, dNeLL, dLenSetL, dRefL, sTryN, exByN, goneD, withD, dXf, sRaiseF, dLc2, dEnum, dListRg1, dListRg2, dTupRg1, dTupRg2, dStrOf1, dRep, dstart, fnE_nx, fnE_rt, fnE_ex, Nat.zero_le, Nat.reduceLeDiff, decide_true, decide_false, true_or, or_true, false_or, or_false, decide_eq_true_eq, exists_eq_left', exists_eq_left, exists_eq_right, exists_eq_right', Option.some.injEq, List.cons.injEq, D.int.injEq, D.bl.injEq, D.str.injEq, D.tup.injEq, D.lro.injEq, D.ref.injEq, DO.lst.injEq, and_true, true_and, and_false, false_and, exists_false, exists_const, List.getElem?_cons_zero, List.getElem?_cons_succ, List.map_cons, List.map_nil, List.length_cons, List.length_nil, List.replicate_zero, List.replicate_succ, List.append_nil, List.cons_append, List.nil_append, List.set_cons_zero, List.set_cons_succ, Nat.reduceAdd, Nat.reduceSub, Nat.zero_add, reduceIte, Bool.false_eq_true, reduceCtorEq, if_true, if_false, Bool.not_true, Bool.not_false, exists_and_left, Bool.true_xor, Bool.false_xor]
  intro p hp
  obtain ⟨pa, pb, hj1⟩ := hj.new (o := .lst []) hp
  have hx1 := (Ext.refl (a := a) (L := L)).new (o := .lst []) hp
  simp only [d__law_marks_t1, dVar, dC, dOp, dUn, dNil, dCons, dTup, dLst, dCB, dTest, dAnd, dOr, dNot, dAndV, dOrV, dNotV, dIfE, dChain, sNext, sSeq, sBreak, sCont, sDrop, sRet, sRetN, sIf, gdName, gdNil, gdCons, gdTup, gdSub, sAsg, dCall, xOf, sFor, dSeq, dRng1, dRng2, dI, dI0, dB0, dAdd, dIsN, dNotN, isNon, dIx, dSetL, dNeg, one, two, dLen1, dListOf1, dTupOf1, dAbs1, dIntOf1, dII, marg, dAppend1, dExtend1, dIsi, isA, dSl, dPart, dNoPart, dCut, dLc, dYes, sRaise, sTry, exBy, sPar2, sPar3, dIsBl, dNotBl, dBM, dBM0, dEq, dNe, dIn, dSgn, dIsiT2, isAny, dLenSet, dLstL, dOfE, dIxL, dCon, fLen, fTup, fSum, fMax, fMin, fAll, fAny, dEqLL, dNeLL, dLenSetL, dRefL, sTryN, exByN, goneD, withD, dXf, sRaiseF, dLc2, dEnum, dListRg1, dListRg2, dTupRg1, dTupRg2, dStrOf1, dRep, dstart, fnE_nx, fnE_rt, fnE_ex, Nat.zero_le, Nat.reduceLeDiff, decide_true, decide_false, true_or, or_true, false_or, or_false, decide_eq_true_eq, exists_eq_left', exists_eq_left, exists_eq_right, exists_eq_right', Option.some.injEq, List.cons.injEq, D.int.injEq, D.bl.injEq, D.str.injEq, D.tup.injEq, D.lro.injEq, D.ref.injEq, DO.lst.injEq, and_true, true_and, and_false, false_and, exists_false, exists_const, List.getElem?_cons_zero, List.getElem?_cons_succ, List.map_cons, List.map_nil, List.length_cons, List.length_nil, List.replicate_zero, List.replicate_succ, List.append_nil, List.cons_append, List.nil_append, List.set_cons_zero, List.set_cons_succ, Nat.reduceAdd, Nat.reduceSub, Nat.zero_add, reduceIte, Bool.false_eq_true, reduceCtorEq, if_true, if_false, Bool.not_true, Bool.not_false, exists_and_left, Bool.true_xor, Bool.false_xor]
  refine ⟨a, b, 4, _, rfl, hj1, by omega, by decide, by decide, fun sh o sh0 sh1 hj2 => ?_⟩
  have hx2 := hx1.bag (o := o)
  have g2 : upd (upd L p (.lst [])) a o p = some (.lst []) := by rw [updD_ne pa, updD_same]
  generalize upd (upd L p (.lst [])) a o = L2 at hj2 hx2 g2
  simp only [d__law_marks_t2, dVar, dC, dOp, dUn, dNil, dCons, dTup, dLst, dCB, dTest, dAnd, dOr, dNot, dAndV, dOrV, dNotV, dIfE, dChain, sNext, sSeq, sBreak, sCont, sDrop, sRet, sRetN, sIf, gdName, gdNil, gdCons, gdTup, gdSub, sAsg, dCall, xOf, sFor, dSeq, dRng1, dRng2, dI, dI0, dB0, dAdd, dIsN, dNotN, isNon, dIx, dSetL, dNeg, one, two, dLen1, dListOf1, dTupOf1, dAbs1, dIntOf1, dII, marg, dAppend1, dExtend1, dIsi, isA, dSl, dPart, dNoPart, dCut, dLc, dYes, sRaise, sTry, exBy, sPar2, sPar3, dIsBl, dNotBl, dBM, dBM0, dEq, dNe, dIn, dSgn, dIsiT2, isAny, dLenSet, dLstL, dOfE, dIxL, dCon, fLen, fTup, fSum, fMax, fMin, fAll, fAny, dEqLL, dNeLL, dLenSetL, dRefL, sTryN, exByN, goneD, withD, dXf, sRaiseF, dLc2, dEnum, dListRg1, dListRg2, dTupRg1, dTupRg2, dStrOf1, dRep, dstart, fnE_nx, fnE_rt, fnE_ex, Nat.zero_le, Nat.reduceLeDiff, decide_true, decide_false, true_or, or_true, false_or, or_false, decide_eq_true_eq, exists_eq_left', exists_eq_left, exists_eq_right, exists_eq_right', Option.some.injEq, List.cons.injEq, D.int.injEq, D.bl.injEq, D.str.injEq, D.tup.injEq, D.lro.injEq, D.ref.injEq, DO.lst.injEq, and_true, true_and, and_false, false_and, exists_false, exists_const, List.getElem?_cons_zero, List.getElem?_cons_succ, List.map_cons, List.map_nil, List.length_cons, List.length_nil, List.replicate_zero, List.replicate_succ, List.append_nil, List.cons_append, List.nil_append, List.set_cons_zero, List.set_cons_succ, Nat.reduceAdd, Nat.reduceSub, Nat.zero_add, reduceIte, Bool.false_eq_true, reduceCtorEq, if_true, if_false, Bool.not_true, Bool.not_false, exists_and_left, Bool.true_xor, Bool.false_xor]
  refine ⟨a, b, most, _, rfl, hj2, by omega, m0, big_m (by omega), fun r o r0 r1 hj3 => ?_⟩
  have hx3 := hx2.bag (o := o)
  have g3 : upd L2 a o p = some (.lst []) := by rw [updD_ne pa]; exact g2
  generalize upd L2 a o = L3 at hj3 hx3 g3
  refine ⟨⟨by omega, by omega⟩, ?_⟩
  refine forD_ind (fun rest s L' => ∃ (m : Nat) (ms : List Int) (o4 o5 : Option D), m + 4 * rest.length ≤ n + 2 + 4 * (1 + r).toNat ∧ JugAt m L' a b ∧ Ext a L L' ∧ L' p = some (.lst (ms.map D.int)) ∧ s = [some (.ref a), some (.int most), some (.ref p), some (.int sh), o4, o5] ∧
    ms.length + rest.length ≤ (1 + r).toNat ∧ (1 ≤ ms.length ∨ 1 ≤ rest.length) ∧ ms.Nodup ∧ ∀ x, x ∈ ms → 0 ≤ x) ?_ ?_ _ _ _ ⟨n + 1 + 1, [], none, none, by rw [rngD_length]; omega, hj3, hx3, g3, rfl, by rw [rngD_length]; simp, .inr (by rw [rngD_length]; omega), List.nodup_nil, by simp⟩
  · rintro d rest s L' P hP ⟨m, ms, o4, o5, hm, hj, hx, hg, rfl, h1, h2, h3, h4⟩
    have hm : m + 4 * (rest.length + 1) ≤ n + 2 + 4 * (1 + r).toNat := hm
    have h1 : ms.length + (rest.length + 1) ≤ (1 + r).toNat := h1
    have e30 : (10 : Int) ^ (30 : Int).toNat = 1000000000000000000000000000000 := by decide
    have e9 : (10 : Int) ^ (9 : Int).toNat = 1000000000 := by decide
    refine ⟨trivial, ?_⟩
    simp only [d__law_marks_b2, dVar, dC, dOp, dUn, dNil, dCons, dTup, dLst, dCB, dTest, dAnd, dOr, dNot, dAndV, dOrV, dNotV, dIfE, dChain, sNext, sSeq, sBreak, sCont, sDrop, sRet, sRetN, sIf, gdName, gdNil, gdCons, gdTup, gdSub, sAsg, dCall, xOf, sFor, dSeq, dRng1, dRng2, dI, dI0, dB0, dAdd, dIsN, dNotN, isNon, dIx, dSetL, dNeg, one, two, dLen1, dListOf1, dTupOf1, dAbs1, dIntOf1, dII, marg, dAppend1, dExtend1, dIsi, isA, dSl, dPart, dNoPart, dCut, dLc, dYes, sRaise, sTry, exBy, sPar2, sPar3, dIsBl, dNotBl, dBM, dBM0, dEq, dNe, dIn, dSgn, dIsiT2, isAny, dLenSet, dLstL, dOfE, dIxL, dCon, fLen, fTup, fSum, fMax, fMin, fAll, fAny, dEqLL, dNeLL, dLenSetL, dRefL, sTryN, exByN, goneD, withD, dXf, sRaiseF, dLc2, dEnum, dListRg1, dListRg2, dTupRg1, dTupRg2, dStrOf1, dRep, dstart, fnE_nx, fnE_rt, fnE_ex, Nat.zero_le, Nat.reduceLeDiff, decide_true, decide_false, true_or, or_true, false_or, or_false, decide_eq_true_eq, exists_eq_left', exists_eq_left, exists_eq_right, exists_eq_right', Option.some.injEq, List.cons.injEq, D.int.injEq, D.bl.injEq, D.str.injEq, D.tup.injEq, D.lro.injEq, D.ref.injEq, DO.lst.injEq, and_true, true_and, and_false, false_and, exists_false, exists_const, List.getElem?_cons_zero, List.getElem?_cons_succ, List.map_cons, List.map_nil, List.length_cons, List.length_nil, List.replicate_zero, List.replicate_succ, List.append_nil, List.cons_append, List.nil_append, List.set_cons_zero, List.set_cons_succ, Nat.reduceAdd, Nat.reduceSub, Nat.zero_add, reduceIte, Bool.false_eq_true, reduceCtorEq, if_true, if_false, Bool.not_true, Bool.not_false, exists_and_left, Bool.true_xor, Bool.false_xor, e30, e9]
    refine ⟨a, b, 7, _, rfl, hj, by omega, by decide, by decide, fun u1 o u10 u11 hj1 => ?_⟩
    have hx1 := hx.bag (o := o)
    have g1 : upd L' a o p = some (.lst (ms.map D.int)) := by rw [updD_ne pa]; exact hg
    generalize upd L' a o = L1 at hj1 hx1 g1
    refine ⟨a, b, 40, _, rfl, hj1, by omega, by decide, by decide, fun u2 o u20 u21 hj2 => ?_⟩
    have hx2 := hx1.bag (o := o)
    have g2 : upd L1 a o p = some (.lst (ms.map D.int)) := by rw [updD_ne pa]; exact g1
    generalize upd L1 a o = L2 at hj2 hx2 g2
    refine ⟨cmul_r (by decide) (by decide), ⟨by decide, by decide⟩, ⟨by decide, by decide⟩, ?_⟩
    refine ⟨a, b, _, _, rfl, hj2, by omega, by decide, big_m (by decide), fun u3 o u30 u31 hj3 => ?_⟩
    have hx3 := hx2.bag (o := o)
    have g3 : upd L2 a o p = some (.lst (ms.map D.int)) := by rw [updD_ne pa]; exact g2
    generalize upd L2 a o = L3 at hj3 hx3 g3
    refine ⟨a, b, 3, _, rfl, hj3, by omega, by decide, by decide, fun u4 o u40 u41 hj4 => ?_⟩
    have hx4 := hx3.bag (o := o)
    have g4 : upd L3 a o p = some (.lst (ms.map D.int)) := by rw [updD_ne pa]; exact g3
    generalize upd L3 a o = L4 at hj4 hx4 g4
    obtain ⟨v, hv, hvm⟩ := atI_ints (ns := [u1, u2 * 5, 1000000000000000000000000000000 + u3, u4]) sh0 (by simpa using sh1)
    refine ⟨_, hv, ?_⟩
    have v0 : 0 ≤ v := by
      simp only [List.mem_cons, List.not_mem_nil, or_false] at hvm
      rcases hvm with rfl | rfl | rfl | rfl <;> omega
    simp only [d__law_marks_t2b1, dVar, dC, dOp, dUn, dNil, dCons, dTup, dLst, dCB, dTest, dAnd, dOr, dNot, dAndV, dOrV, dNotV, dIfE, dChain, sNext, sSeq, sBreak, sCont, sDrop, sRet, sRetN, sIf, gdName, gdNil, gdCons, gdTup, gdSub, sAsg, dCall, xOf, sFor, dSeq, dRng1, dRng2, dI, dI0, dB0, dAdd, dIsN, dNotN, isNon, dIx, dSetL, dNeg, one, two, dLen1, dListOf1, dTupOf1, dAbs1, dIntOf1, dII, marg, dAppend1, dExtend1, dIsi, isA, dSl, dPart, dNoPart, dCut, dLc, dYes, sRaise, sTry, exBy, sPar2, sPar3, dIsBl, dNotBl, dBM, dBM0, dEq, dNe, dIn, dSgn, dIsiT2, isAny, dLenSet, dLstL, dOfE, dIxL, dCon, fLen, fTup, fSum, fMax, fMin, fAll, fAny, dEqLL, dNeLL, dLenSetL, dRefL, sTryN, exByN, goneD, withD, dXf, sRaiseF, dLc2, dEnum, dListRg1, dListRg2, dTupRg1, dTupRg2, dStrOf1, dRep, dstart, fnE_nx, fnE_rt, fnE_ex, Nat.zero_le, Nat.reduceLeDiff, decide_true, decide_false, true_or, or_true, false_or, or_false, decide_eq_true_eq, exists_eq_left', exists_eq_left, exists_eq_right, exists_eq_right', Option.some.injEq, List.cons.injEq, D.int.injEq, D.bl.injEq, D.str.injEq, D.tup.injEq, D.lro.injEq, D.ref.injEq, DO.lst.injEq, and_true, true_and, and_false, false_and, exists_false, exists_const, List.getElem?_cons_zero, List.getElem?_cons_succ, List.map_cons, List.map_nil, List.length_cons, List.length_nil, List.replicate_zero, List.replicate_succ, List.append_nil, List.cons_append, List.nil_append, List.set_cons_zero, List.set_cons_succ, Nat.reduceAdd, Nat.reduceSub, Nat.zero_add, reduceIte, Bool.false_eq_true, reduceCtorEq, if_true, if_false, Bool.not_true, Bool.not_false, exists_and_left, Bool.true_xor, Bool.false_xor, in_ints g4]
    by_cases hin : v ∈ ms
    · simp only [hin, dVar, dC, dOp, dUn, dNil, dCons, dTup, dLst, dCB, dTest, dAnd, dOr, dNot, dAndV, dOrV, dNotV, dIfE, dChain, sNext, sSeq, sBreak, sCont, sDrop, sRet, sRetN, sIf, gdName, gdNil, gdCons, gdTup, gdSub, sAsg, dCall, xOf, sFor, dSeq, dRng1, dRng2, dI, dI0, dB0, dAdd, dIsN, dNotN, isNon, dIx, dSetL, dNeg, one, two, dLen1, dListOf1, dTupOf1, dAbs1, dIntOf1, dII, marg, dAppend1, dExtend1, dIsi, isA, dSl, dPart, dNoPart, dCut, dLc, dYes, sRaise, sTry, exBy, sPar2, sPar3, dIsBl, dNotBl, dBM, dBM0, dEq, dNe, dIn, dSgn, dIsiT2, isAny, dLenSet, dLstL, dOfE, dIxL, dCon, fLen, fTup, fSum, fMax, fMin, fAll, fAny, dEqLL, dNeLL, dLenSetL, dRefL, sTryN, exByN, goneD, withD, dXf, sRaiseF, dLc2, dEnum, dListRg1, dListRg2, dTupRg1, dTupRg2, dStrOf1, dRep, dstart, fnE_nx, fnE_rt, fnE_ex, Nat.zero_le, Nat.reduceLeDiff, decide_true, decide_false, true_or, or_true, false_or, or_false, decide_eq_true_eq, exists_eq_left', exists_eq_left, exists_eq_right, exists_eq_right', Option.some.injEq, List.cons.injEq, D.int.injEq, D.bl.injEq, D.str.injEq, D.tup.injEq, D.lro.injEq, D.ref.injEq, DO.lst.injEq, and_true, true_and, and_false, false_and, exists_false, exists_const, List.getElem?_cons_zero, List.getElem?_cons_succ, List.map_cons, List.map_nil, List.length_cons, List.length_nil, List.replicate_zero, List.replicate_succ, List.append_nil, List.cons_append, List.nil_append, List.set_cons_zero, List.set_cons_succ, Nat.reduceAdd, Nat.reduceSub, Nat.zero_add, reduceIte, Bool.false_eq_true, reduceCtorEq, if_true, if_false, Bool.not_true, Bool.not_false, exists_and_left, Bool.true_xor, Bool.false_xor]
      exact hP _ _ ⟨m + 1 + 1 + 1 + 1, ms, _, _, by omega, hj4, hx4, g4, rfl, by omega, .inl (List.length_pos_of_mem hin), h3, h4⟩
    · simp only [hin, dVar, dC, dOp, dUn, dNil, dCons, dTup, dLst, dCB, dTest, dAnd, dOr, dNot, dAndV, dOrV, dNotV, dIfE, dChain, sNext, sSeq, sBreak, sCont, sDrop, sRet, sRetN, sIf, gdName, gdNil, gdCons, gdTup, gdSub, sAsg, dCall, xOf, sFor, dSeq, dRng1, dRng2, dI, dI0, dB0, dAdd, dIsN, dNotN, isNon, dIx, dSetL, dNeg, one, two, dLen1, dListOf1, dTupOf1, dAbs1, dIntOf1, dII, marg, dAppend1, dExtend1, dIsi, isA, dSl, dPart, dNoPart, dCut, dLc, dYes, sRaise, sTry, exBy, sPar2, sPar3, dIsBl, dNotBl, dBM, dBM0, dEq, dNe, dIn, dSgn, dIsiT2, isAny, dLenSet, dLstL, dOfE, dIxL, dCon, fLen, fTup, fSum, fMax, fMin, fAll, fAny, dEqLL, dNeLL, dLenSetL, dRefL, sTryN, exByN, goneD, withD, dXf, sRaiseF, dLc2, dEnum, dListRg1, dListRg2, dTupRg1, dTupRg2, dStrOf1, dRep, dstart, fnE_nx, fnE_rt, fnE_ex, Nat.zero_le, Nat.reduceLeDiff, decide_true, decide_false, true_or, or_true, false_or, or_false, decide_eq_true_eq, exists_eq_left', exists_eq_left, exists_eq_right, exists_eq_right', Option.some.injEq, List.cons.injEq, D.int.injEq, D.bl.injEq, D.str.injEq, D.tup.injEq, D.lro.injEq, D.ref.injEq, DO.lst.injEq, and_true, true_and, and_false, false_and, exists_false, exists_const, List.getElem?_cons_zero, List.getElem?_cons_succ, List.map_cons, List.map_nil, List.length_cons, List.length_nil, List.replicate_zero, List.replicate_succ, List.append_nil, List.cons_append, List.nil_append, List.set_cons_zero, List.set_cons_succ, Nat.reduceAdd, Nat.reduceSub, Nat.zero_add, reduceIte, Bool.false_eq_true, reduceCtorEq, if_true, if_false, Bool.not_true, Bool.not_false, exists_and_left, Bool.true_xor, Bool.false_xor]
      refine ⟨⟨_, lstOf_ref g4⟩, _, g4, by simp; omega, ?_⟩
      refine hP _ _ ⟨m + 1 + 1 + 1 + 1, ms ++ [v], _, _, by omega, hj4.off pa pb, hx4.own hp, by rw [updD_same]; simp, rfl, by simp; omega, .inl (by simp), ?_, ?_⟩
      · rw [List.nodup_append]
        refine ⟨h3, by simp, fun x hx y hy => ?_⟩
        rw [List.mem_singleton] at hy
        rintro rfl
        exact hin (hy ▸ hx)
      · intro x hx
        rcases List.mem_append.mp hx with hx | hx
        · exact h4 x hx
        · rw [List.mem_singleton] at hx
          omega
  · rintro s L' ⟨m, ms, o4, o5, hm, hj, hx, hg, rfl, h1, h2, h3, h4⟩
    refine ⟨trivial, ?_⟩
    simp only [d__law_marks_t3, dVar, dC, dOp, dUn, dNil, dCons, dTup, dLst, dCB, dTest, dAnd, dOr, dNot, dAndV, dOrV, dNotV, dIfE, dChain, sNext, sSeq, sBreak, sCont, sDrop, sRet, sRetN, sIf, gdName, gdNil, gdCons, gdTup, gdSub, sAsg, dCall, xOf, sFor, dSeq, dRng1, dRng2, dI, dI0, dB0, dAdd, dIsN, dNotN, isNon, dIx, dSetL, dNeg, one, two, dLen1, dListOf1, dTupOf1, dAbs1, dIntOf1, dII, marg, dAppend1, dExtend1, dIsi, isA, dSl, dPart, dNoPart, dCut, dLc, dYes, sRaise, sTry, exBy, sPar2, sPar3, dIsBl, dNotBl, dBM, dBM0, dEq, dNe, dIn, dSgn, dIsiT2, isAny, dLenSet, dLstL, dOfE, dIxL, dCon, fLen, fTup, fSum, fMax, fMin, fAll, fAny, dEqLL, dNeLL, dLenSetL, dRefL, sTryN, exByN, goneD, withD, dXf, sRaiseF, dLc2, dEnum, dListRg1, dListRg2, dTupRg1, dTupRg2, dStrOf1, dRep, dstart, fnE_nx, fnE_rt, fnE_ex, Nat.zero_le, Nat.reduceLeDiff, decide_true, decide_false, true_or, or_true, false_or, or_false, decide_eq_true_eq, exists_eq_left', exists_eq_left, exists_eq_right, exists_eq_right', Option.some.injEq, List.cons.injEq, D.int.injEq, D.bl.injEq, D.str.injEq, D.tup.injEq, D.lro.injEq, D.ref.injEq, DO.lst.injEq, and_true, true_and, and_false, false_and, exists_false, exists_const, List.getElem?_cons_zero, List.getElem?_cons_succ, List.map_cons, List.map_nil, List.length_cons, List.length_nil, List.replicate_zero, List.replicate_succ, List.append_nil, List.cons_append, List.nil_append, List.set_cons_zero, List.set_cons_succ, Nat.reduceAdd, Nat.reduceSub, Nat.zero_add, reduceIte, Bool.false_eq_true, reduceCtorEq, if_true, if_false, Bool.not_true, Bool.not_false, exists_and_left, Bool.true_xor, Bool.false_xor]
    have h2 : 1 ≤ ms.length := by
      rcases h2 with h2 | h2
      · exact h2
      · simp at h2
    exact endOf (q p ms L' hx (hj.mono (by simp at hm; omega)) pa pb hp hg h2 (by simp at h1; omega) h3 h4)
/-! ### games drawn -/
def RowOk (many : Int) (ms : List Int) (r : D) : Prop := ∃ (o m : Int) (ns : List Int), r = .tup [.int o, .int m, .tup (ns.map .int)] ∧ 0 ≤ o ∧ o ≤ 1 ∧ m ∈ ms ∧ 1 ≤ ns.length ∧ ns.length ≤ 1002 ∧ ns.Nodup ∧ ∀ w, w ∈ ns → 0 ≤ w ∧ w < many
def sp_law_game : SpD := fun ds L Q _ => ∃ (a b p : Addr) (n : Nat) (size width : Int) (ms : List Int), ds = [.ref a, .int size, .ref p, .int width] ∧ JugAt n L a b ∧ n ≤ 800000000 ∧ 1 ≤ size ∧ size ≤ 1000 ∧ 1 ≤ width ∧ width ≤ 100 ∧ p ≠ a ∧ p ≠ b ∧ L p = some (.lst (ms.map .int)) ∧ 1 ≤ ms.length ∧ ms.length ≤ 1000 ∧
  ∀ (rows : List D) (L' : DH), Ext a L L' → JugAt (n + 200000) L' a b → (rows.length : Int) = size → (∀ r, r ∈ rows → RowOk size ms r) → Q (.tup rows) L'
theorem len_law_game : ∀ as L Q E, sp_law_game as L Q E → as.length = 4 := by rintro _ L Q E ⟨a, b, p, n, s, w, ms, rfl, _⟩; rfl
def d__law_game_t1b1b1 : DS :=
  (sIf (dTest (dOp (dIn true) (dVar 8) (dVar 6))) (sDrop (dBM chkL (marg dAppend1) (dVar 6) (dCons (dVar 8) dNil))) sNext)
def d__law_game_b1b1 : DS :=
  (sSeq (sAsg (dCall sp_law_take (dCons (dVar 0) (dCons (dVar 1) dNil))) (gdName 8)) d__law_game_t1b1b1)
def d__law_game_t1b2 : DS :=
  (sDrop (dBM chkL (marg dAppend1) (dVar 4) (dCons (dTup (dCons (dCall sp_law_take (dCons (dVar 0) (dCons (dC (.int 2)) dNil))) (dCons (dOp dIx (dVar 2) (dCall sp_law_take (dCons (dVar 0) (dCons (dCB dLen (dCons (dVar 2) dNil)) dNil)))) (dCons (dCB dTupOf (dCons (dVar 6) dNil)) dNil)))) dNil)))
def d__law_game_t1b1 : DS :=
  (sSeq (sFor (dRng1 (dCons (dOp dAdd (dC (.int 1)) (dCall sp_law_take (dCons (dVar 0) (dCons (dVar 3) dNil)))) dNil)) (gdName 7)
  d__law_game_b1b1) d__law_game_t1b2)
def d__law_game_b1 : DS :=
  (sSeq (sAsg (dLst dNil) (gdName 6)) d__law_game_t1b1)
def d__law_game_t2 : DS :=
  (sRet (dCB dTupOf (dCons (dVar 4) dNil)))
def d__law_game_t1 : DS :=
  (sSeq (sFor (dRng1 (dCons (dVar 1) dNil)) (gdName 5)
  d__law_game_b1) d__law_game_t2)
def d__law_game : DS :=
  (sSeq (sAsg (dLst dNil) (gdName 4)) d__law_game_t1)

theorem game_nexts {a b : Addr} {size : Int} (z0 : 1 ≤ size) (z1 : size ≤ 1000) {o2 o3 o4 o5 : Option D} {Lb : DH} {pn : Addr} (pa : pn ≠ a) (pb : pn ≠ b) (hb : Lb pn = none) {dn : DEnds} (hdn : True) (mb : Nat) (hmb : mb ≤ 900000000) :
    ∀ (ds : List D) (L : DH) (o7 o8 : Option D) (m : Nat) (ns : List Int), m + ds.length ≤ mb → JugAt m L a b → Ext a Lb L → L pn = some (.lst (ns.map .int)) → ns.Nodup → (∀ w, w ∈ ns → 0 ≤ w ∧ w < size) → (1 ≤ ns.length ∨ 1 ≤ ds.length) → ns.length + ds.length ≤ 100 →
    (∀ L' m' o7 o8 (ns' : List Int), m' ≤ mb → JugAt m' L' a b → Ext a Lb L' → L' pn = some (.lst (ns'.map .int)) → ns'.Nodup → (∀ w, w ∈ ns' → 0 ≤ w ∧ w < size) → 1 ≤ ns'.length → ns'.length ≤ 100 → dn.nx [some (.ref a), some (.int size), o2, o3, o4, o5, some (.ref pn), o7, o8] L') →
    forD (gdName 7) d__law_game_b1b1 (fun _ => True) ds dn [some (.ref a), some (.int size), o2, o3, o4, o5, some (.ref pn), o7, o8] L := by
  intro ds L o7 o8 m ns h1 h2 h3 h4 h5 h6 h7 h8 hq
  refine forD_ind (fun rest s L' => ∃ (m : Nat) (ns : List Int) (o7 o8 : Option D), m + rest.length ≤ mb ∧ JugAt m L' a b ∧ Ext a Lb L' ∧ L' pn = some (.lst (ns.map D.int)) ∧ ns.Nodup ∧ (∀ w, w ∈ ns → 0 ≤ w ∧ w < size) ∧ (1 ≤ ns.length ∨ 1 ≤ rest.length) ∧ ns.length + rest.length ≤ 100 ∧
    s = [some (.ref a), some (.int size), o2, o3, o4, o5, some (.ref pn), o7, o8]) ?_ ?_ ds _ L ⟨m, ns, o7, o8, h1, h2, h3, h4, h5, h6, h7, h8, rfl⟩
  · rintro d rest s L' P hP ⟨m, ns, o7, o8, h1, h2, h3, h4, h5, h6, h7, h8, rfl⟩
    have h1 : m + (rest.length + 1) ≤ mb := h1
    have h8 : ns.length + (rest.length + 1) ≤ 100 := h8
    refine ⟨trivial, ?_⟩
    simp only [d__law_game_b1b1, dVar, dC, dOp, dUn, dNil, dCons, dTup, dLst, dCB, dTest, dAnd, dOr, dNot, dAndV, dOrV, dNotV, dIfE, dChain, sNext, sSeq, sBreak, sCont, sDrop, sRet, sRetN, sIf, gdName, gdNil, gdCons, gdTup, gdSub, sAsg, dCall, xOf, sFor, dSeq, dRng1, dRng2, dI, dI0, dB0, dAdd, dIsN, dNotN, isNon, dIx, dSetL, dNeg, one, two, dLen1, dListOf1, dTupOf1, dAbs1, dIntOf1, dII, marg, dAppend1, dExtend1, dIsi, isA, dSl, dPart, dNoPart, dCut, dLc, dYes, sRaise, sTry, exBy, sPar2, sPar3, dIsBl, dNotBl, dBM, dBM0, dEq, dNe, dIn, dSgn, dIsiT2, isAny, dLenSet, dLstL, dOfE, dIxL, dCon, fLen, fTup, fSum, fMax, fMin, fAll, fAny, dEqLL, dNeLL, dLenSetL, dRefL, sTryN, exByN, goneD, withD, dXf, sRaiseF, dLc2, dEnum, dListRg1, dListRg2, dTupRg1, dTupRg2, dStrOf1, dRep, dstart, fnE_nx, fnE_rt, fnE_ex, Nat.zero_le, Nat.reduceLeDiff, decide_true, decide_false, true_or, or_true, false_or, or_false, decide_eq_true_eq, exists_eq_left', exists_eq_left, exists_eq_right, exists_eq_right', Option.some.injEq, List.cons.injEq, D.int.injEq, D.bl.injEq, D.str.injEq, D.tup.injEq, D.lro.injEq, D.ref.injEq, DO.lst.injEq, and_true, true_and, and_false, false_and, exists_false, exists_const, List.getElem?_cons_zero, List.getElem?_cons_succ, List.map_cons, List.map_nil, List.length_cons, List.length_nil, List.replicate_zero, List.replicate_succ, List.append_nil, List.cons_append, List.nil_append, List.set_cons_zero, List.set_cons_succ, Nat.reduceAdd, Nat.reduceSub, Nat.zero_add, reduceIte, Bool.false_eq_true, reduceCtorEq, if_true, if_false, Bool.not_true, Bool.not_false, exists_and_left, Bool.true_xor, Bool.false_xor]
    refine ⟨a, b, size, _, rfl, h2, by omega, z0, big_m (by omega), fun w o w0 w1 hj => ?_⟩
    have hx := h3.bag (o := o)
    have hg : upd L' a o pn = some (.lst (ns.map D.int)) := by rw [updD_ne pa]; exact h4
    generalize upd L' a o = L1 at hj hx hg
    simp only [d__law_game_t1b1b1, dVar, dC, dOp, dUn, dNil, dCons, dTup, dLst, dCB, dTest, dAnd, dOr, dNot, dAndV, dOrV, dNotV, dIfE, dChain, sNext, sSeq, sBreak, sCont, sDrop, sRet, sRetN, sIf, gdName, gdNil, gdCons, gdTup, gdSub, sAsg, dCall, xOf, sFor, dSeq, dRng1, dRng2, dI, dI0, dB0, dAdd, dIsN, dNotN, isNon, dIx, dSetL, dNeg, one, two, dLen1, dListOf1, dTupOf1, dAbs1, dIntOf1, dII, marg, dAppend1, dExtend1, dIsi, isA, dSl, dPart, dNoPart, dCut, dLc, dYes, sRaise, sTry, exBy, sPar2, sPar3, dIsBl, dNotBl, dBM, dBM0, dEq, dNe, dIn, dSgn, dIsiT2, isAny, dLenSet, dLstL, dOfE, dIxL, dCon, fLen, fTup, fSum, fMax, fMin, fAll, fAny, dEqLL, dNeLL, dLenSetL, dRefL, sTryN, exByN, goneD, withD, dXf, sRaiseF, dLc2, dEnum, dListRg1, dListRg2, dTupRg1, dTupRg2, dStrOf1, dRep, dstart, fnE_nx, fnE_rt, fnE_ex, Nat.zero_le, Nat.reduceLeDiff, decide_true, decide_false, true_or, or_true, false_or, or_false, decide_eq_true_eq, exists_eq_left', exists_eq_left, exists_eq_right, exists_eq_right', Option.some.injEq, List.cons.injEq, D.int.injEq, D.bl.injEq, D.str.injEq, D.tup.injEq, D.lro.injEq, D.ref.injEq, DO.lst.injEq, and_true, true_and, and_false, false_and, exists_false, exists_const, List.getElem?_cons_zero, List.getElem?_cons_succ, List.map_cons, List.map_nil, List.length_cons, List.length_nil, List.replicate_zero, List.replicate_succ, List.append_nil, List.cons_append, List.nil_append, List.set_cons_zero, List.set_cons_succ, Nat.reduceAdd, Nat.reduceSub, Nat.zero_add, reduceIte, Bool.false_eq_true, reduceCtorEq, if_true, if_false, Bool.not_true, Bool.not_false, exists_and_left, Bool.true_xor, Bool.false_xor, in_ints hg]
    by_cases hin : w ∈ ns
    · simp only [hin, dVar, dC, dOp, dUn, dNil, dCons, dTup, dLst, dCB, dTest, dAnd, dOr, dNot, dAndV, dOrV, dNotV, dIfE, dChain, sNext, sSeq, sBreak, sCont, sDrop, sRet, sRetN, sIf, gdName, gdNil, gdCons, gdTup, gdSub, sAsg, dCall, xOf, sFor, dSeq, dRng1, dRng2, dI, dI0, dB0, dAdd, dIsN, dNotN, isNon, dIx, dSetL, dNeg, one, two, dLen1, dListOf1, dTupOf1, dAbs1, dIntOf1, dII, marg, dAppend1, dExtend1, dIsi, isA, dSl, dPart, dNoPart, dCut, dLc, dYes, sRaise, sTry, exBy, sPar2, sPar3, dIsBl, dNotBl, dBM, dBM0, dEq, dNe, dIn, dSgn, dIsiT2, isAny, dLenSet, dLstL, dOfE, dIxL, dCon, fLen, fTup, fSum, fMax, fMin, fAll, fAny, dEqLL, dNeLL, dLenSetL, dRefL, sTryN, exByN, goneD, withD, dXf, sRaiseF, dLc2, dEnum, dListRg1, dListRg2, dTupRg1, dTupRg2, dStrOf1, dRep, dstart, fnE_nx, fnE_rt, fnE_ex, Nat.zero_le, Nat.reduceLeDiff, decide_true, decide_false, true_or, or_true, false_or, or_false, decide_eq_true_eq, exists_eq_left', exists_eq_left, exists_eq_right, exists_eq_right', Option.some.injEq, List.cons.injEq, D.int.injEq, D.bl.injEq, D.str.injEq, D.tup.injEq, D.lro.injEq, D.ref.injEq, DO.lst.injEq, and_true, true_and, and_false, false_and, exists_false, exists_const, List.getElem?_cons_zero, List.getElem?_cons_succ, List.map_cons, List.map_nil, List.length_cons, List.length_nil, List.replicate_zero, List.replicate_succ, List.append_nil, List.cons_append, List.nil_append, List.set_cons_zero, List.set_cons_succ, Nat.reduceAdd, Nat.reduceSub, Nat.zero_add, reduceIte, Bool.false_eq_true, reduceCtorEq, if_true, if_false, Bool.not_true, Bool.not_false, exists_and_left, Bool.true_xor, Bool.false_xor]
      exact hP _ _ ⟨m + 1, ns, _, _, by omega, hj, hx, hg, h5, h6, .inl (List.length_pos_of_mem hin), by omega, rfl⟩
    · simp only [hin, dVar, dC, dOp, dUn, dNil, dCons, dTup, dLst, dCB, dTest, dAnd, dOr, dNot, dAndV, dOrV, dNotV, dIfE, dChain, sNext, sSeq, sBreak, sCont, sDrop, sRet, sRetN, sIf, gdName, gdNil, gdCons, gdTup, gdSub, sAsg, dCall, xOf, sFor, dSeq, dRng1, dRng2, dI, dI0, dB0, dAdd, dIsN, dNotN, isNon, dIx, dSetL, dNeg, one, two, dLen1, dListOf1, dTupOf1, dAbs1, dIntOf1, dII, marg, dAppend1, dExtend1, dIsi, isA, dSl, dPart, dNoPart, dCut, dLc, dYes, sRaise, sTry, exBy, sPar2, sPar3, dIsBl, dNotBl, dBM, dBM0, dEq, dNe, dIn, dSgn, dIsiT2, isAny, dLenSet, dLstL, dOfE, dIxL, dCon, fLen, fTup, fSum, fMax, fMin, fAll, fAny, dEqLL, dNeLL, dLenSetL, dRefL, sTryN, exByN, goneD, withD, dXf, sRaiseF, dLc2, dEnum, dListRg1, dListRg2, dTupRg1, dTupRg2, dStrOf1, dRep, dstart, fnE_nx, fnE_rt, fnE_ex, Nat.zero_le, Nat.reduceLeDiff, decide_true, decide_false, true_or, or_true, false_or, or_false, decide_eq_true_eq, exists_eq_left', exists_eq_left, exists_eq_right, exists_eq_right', Option.some.injEq, List.cons.injEq, D.int.injEq, D.bl.injEq, D.str.injEq, D.tup.injEq, D.lro.injEq, D.ref.injEq, DO.lst.injEq, and_true, true_and, and_false, false_and, exists_false, exists_const, List.getElem?_cons_zero, List.getElem?_cons_succ, List.map_cons, List.map_nil, List.length_cons, List.length_nil, List.replicate_zero, List.replicate_succ, List.append_nil, List.cons_append, List.nil_append, List.set_cons_zero, List.set_cons_succ, Nat.reduceAdd, Nat.reduceSub, Nat.zero_add, reduceIte, Bool.false_eq_true, reduceCtorEq, if_true, if_false, Bool.not_true, Bool.not_false, exists_and_left, Bool.true_xor, Bool.false_xor]
      refine ⟨⟨_, lstOf_ref hg⟩, _, hg, by simp; omega, ?_⟩
      refine hP _ _ ⟨m + 1, ns ++ [w], _, _, by omega, hj.off pa pb, hx.own hb, by rw [updD_same]; simp, ?_, ?_, .inl (by simp), by simp; omega, rfl⟩
      · rw [List.nodup_append]
        refine ⟨h5, by simp, fun x hx y hy => ?_⟩
        rw [List.mem_singleton] at hy
        rintro rfl
        exact hin (hy ▸ hx)
      · intro x hx
        rcases List.mem_append.mp hx with hx | hx
        · exact h6 x hx
        · rw [List.mem_singleton] at hx
          omega
  · rintro s L' ⟨m, ns, o7, o8, h1, h2, h3, h4, h5, h6, h7, h8, rfl⟩
    have h7 : 1 ≤ ns.length := by
      rcases h7 with h7 | h7
      · exact h7
      · simp at h7
    exact ⟨trivial, hq L' m o7 o8 ns (by simp at h1; omega) h2 h3 h4 h5 h6 h7 (by simp at h8; omega)⟩
theorem pure_law_game : ∀ as L Q E, sp_law_game as L Q E → d__law_game (fnEnds Q E) (dstart 9 as) L := by
  rintro as L Q E ⟨a, b, p, n, size, width, ms, rfl, hj, hn, z0, z1, w0, w1, pa, pb, hp, hm1, hm2, q⟩
  simp only [d__law_game, dVar, dC, dOp, dUn, dNil, dCons, dTup, dLst, dCB, dTest, dAnd, dOr, dNot, dAndV, dOrV, dNotV, dIfE, dChain, sNext, sSeq, sBreak, sCont, sDrop, sRet, sRetN, sIf, gdName, gdNil, gdCons, gdTup, gdSub, sAsg, dCall, xOf, sFor, dSeq, dRng1, dRng2, dI, dI0, dB0, dAdd, dIsN, dNotN, isNon, dIx, dSetL, dNeg, one, two, dLen1, dListOf1, dTupOf1, dAbs1, dIntOf1, dII, marg, dAppend1, dExtend1, dIsi, isA, dSl, dPart, dNoPart, dCut, dLc, dYes, sRaise, sTry, exBy, sPar2, sPar3, dIsBl, dNotBl, dBM, dBM0, dEq, dNe, dIn, dSgn, dIsiT2, isAny, dLenSet, dLstL, dOfE, dIxL, dCon, fLen, fTup, fSum, fMax, fMin, fAll, fAny, dEqLL, dNeLL, dLenSetL, dRefL, sTryN, exByN, goneD, withD, dXf, sRaiseF, dLc2, dEnum, dListRg1, dListRg2, dTupRg1, dTupRg2, dStrOf1, dRep, dstart, fnE_nx, fnE_rt, fnE_ex, Nat.zero_le, Nat.reduceLeDiff, decide_true, decide_false, true_or, or_true, false_or, or_false, decide_eq_true_eq, exists_eq_left', exists_eq_left, exists_eq_right, exists_eq_right', Option.some.injEq, List.cons.injEq, D.int.injEq, D.bl.injEq, D.str.injEq, D.tup.injEq, D.lro.injEq, D.ref.injEq, DO.lst.injEq, and_true, true_and, and_false, false_and, exists_false, exists_const, List.getElem?_cons_zero, List.getElem?_cons_succ, List.map_cons, List.map_nil, List.length_cons, List.length_nil, List.replicate_zero, List.replicate_succ, List.append_nil, List.cons_append, List.nil_append, List.set_cons_zero, List.set_cons_succ, Nat.reduceAdd, Nat.reduceSub, Nat.zero_add, reduceIte, Bool.false_eq_true, reduceCtorEq, if_true, if_false, Bool.not_true, Bool.not_false, exists_and_left, Bool.true_xor, Bool.false_xor]
  intro f hf
  obtain ⟨fa, fb, hj1⟩ := hj.new (o := .lst []) hf
  have hx1 := (Ext.refl (a := a) (L := L)).new (o := .lst []) hf
  have pf : p ≠ f := fresh_ne hp hf
  simp only [d__law_game_t1, dVar, dC, dOp, dUn, dNil, dCons, dTup, dLst, dCB, dTest, dAnd, dOr, dNot, dAndV, dOrV, dNotV, dIfE, dChain, sNext, sSeq, sBreak, sCont, sDrop, sRet, sRetN, sIf, gdName, gdNil, gdCons, gdTup, gdSub, sAsg, dCall, xOf, sFor, dSeq, dRng1, dRng2, dI, dI0, dB0, dAdd, dIsN, dNotN, isNon, dIx, dSetL, dNeg, one, two, dLen1, dListOf1, dTupOf1, dAbs1, dIntOf1, dII, marg, dAppend1, dExtend1, dIsi, isA, dSl, dPart, dNoPart, dCut, dLc, dYes, sRaise, sTry, exBy, sPar2, sPar3, dIsBl, dNotBl, dBM, dBM0, dEq, dNe, dIn, dSgn, dIsiT2, isAny, dLenSet, dLstL, dOfE, dIxL, dCon, fLen, fTup, fSum, fMax, fMin, fAll, fAny, dEqLL, dNeLL, dLenSetL, dRefL, sTryN, exByN, goneD, withD, dXf, sRaiseF, dLc2, dEnum, dListRg1, dListRg2, dTupRg1, dTupRg2, dStrOf1, dRep, dstart, fnE_nx, fnE_rt, fnE_ex, Nat.zero_le, Nat.reduceLeDiff, decide_true, decide_false, true_or, or_true, false_or, or_false, decide_eq_true_eq, exists_eq_left', exists_eq_left, exists_eq_right, exists_eq_right', Option.some.injEq, List.cons.injEq, D.int.injEq, D.bl.injEq, D.str.injEq, D.tup.injEq, D.lro.injEq, D.ref.injEq, DO.lst.injEq, and_true, true_and, and_false, false_and, exists_false, exists_const, List.getElem?_cons_zero, List.getElem?_cons_succ, List.map_cons, List.map_nil, List.length_cons, List.length_nil, List.replicate_zero, List.replicate_succ, List.append_nil, List.cons_append, List.nil_append, List.set_cons_zero, List.set_cons_succ, Nat.reduceAdd, Nat.reduceSub, Nat.zero_add, reduceIte, Bool.false_eq_true, reduceCtorEq, if_true, if_false, Bool.not_true, Bool.not_false, exists_and_left, Bool.true_xor, Bool.false_xor]
  refine ⟨⟨by omega, by omega⟩, ?_⟩
  refine forD_ind (fun rest s L' => ∃ (m : Nat) (rows : List D) (o5 o6 o7 o8 : Option D), m + 150 * rest.length ≤ n + 150 * size.toNat ∧ JugAt m L' a b ∧ Ext a L L' ∧ L' f = some (.lst rows) ∧ rows.length + rest.length = size.toNat ∧ (∀ r, r ∈ rows → RowOk size ms r) ∧
    s = [some (.ref a), some (.int size), some (.ref p), some (.int width), some (.ref f), o5, o6, o7, o8]) ?_ ?_ _ _ _ ⟨n, [], none, none, none, none, by rw [rngD_length]; omega, hj1, hx1, updD_same, by rw [rngD_length]; simp, by simp, rfl⟩
  · rintro d rest s L' P hP ⟨m, rows, o5, o6, o7, o8, h1, h2, h3, h4, h5, h6, rfl⟩
    have h1 : m + 150 * (rest.length + 1) ≤ n + 150 * size.toNat := h1
    have h5 : rows.length + (rest.length + 1) = size.toNat := h5
    refine ⟨trivial, ?_⟩
    simp only [d__law_game_b1, dVar, dC, dOp, dUn, dNil, dCons, dTup, dLst, dCB, dTest, dAnd, dOr, dNot, dAndV, dOrV, dNotV, dIfE, dChain, sNext, sSeq, sBreak, sCont, sDrop, sRet, sRetN, sIf, gdName, gdNil, gdCons, gdTup, gdSub, sAsg, dCall, xOf, sFor, dSeq, dRng1, dRng2, dI, dI0, dB0, dAdd, dIsN, dNotN, isNon, dIx, dSetL, dNeg, one, two, dLen1, dListOf1, dTupOf1, dAbs1, dIntOf1, dII, marg, dAppend1, dExtend1, dIsi, isA, dSl, dPart, dNoPart, dCut, dLc, dYes, sRaise, sTry, exBy, sPar2, sPar3, dIsBl, dNotBl, dBM, dBM0, dEq, dNe, dIn, dSgn, dIsiT2, isAny, dLenSet, dLstL, dOfE, dIxL, dCon, fLen, fTup, fSum, fMax, fMin, fAll, fAny, dEqLL, dNeLL, dLenSetL, dRefL, sTryN, exByN, goneD, withD, dXf, sRaiseF, dLc2, dEnum, dListRg1, dListRg2, dTupRg1, dTupRg2, dStrOf1, dRep, dstart, fnE_nx, fnE_rt, fnE_ex, Nat.zero_le, Nat.reduceLeDiff, decide_true, decide_false, true_or, or_true, false_or, or_false, decide_eq_true_eq, exists_eq_left', exists_eq_left, exists_eq_right, exists_eq_right', Option.some.injEq, List.cons.injEq, D.int.injEq, D.bl.injEq, D.str.injEq, D.tup.injEq, D.lro.injEq, D.ref.injEq, DO.lst.injEq, and_true, true_and, and_false, false_and, exists_false, exists_const, List.getElem?_cons_zero, List.getElem?_cons_succ, List.map_cons, List.map_nil, List.length_cons, List.length_nil, List.replicate_zero, List.replicate_succ, List.append_nil, List.cons_append, List.nil_append, List.set_cons_zero, List.set_cons_succ, Nat.reduceAdd, Nat.reduceSub, Nat.zero_add, reduceIte, Bool.false_eq_true, reduceCtorEq, if_true, if_false, Bool.not_true, Bool.not_false, exists_and_left, Bool.true_xor, Bool.false_xor]
    intro pn hpn
    obtain ⟨na, nb, hj2⟩ := h2.new (o := .lst []) hpn
    have nf : f ≠ pn := fresh_ne h4 hpn
    have hx2 := h3.new (o := .lst []) hpn
    have hxb := (Ext.refl (a := a) (L := L')).new (o := .lst []) hpn
    simp only [d__law_game_t1b1, dVar, dC, dOp, dUn, dNil, dCons, dTup, dLst, dCB, dTest, dAnd, dOr, dNot, dAndV, dOrV, dNotV, dIfE, dChain, sNext, sSeq, sBreak, sCont, sDrop, sRet, sRetN, sIf, gdName, gdNil, gdCons, gdTup, gdSub, sAsg, dCall, xOf, sFor, dSeq, dRng1, dRng2, dI, dI0, dB0, dAdd, dIsN, dNotN, isNon, dIx, dSetL, dNeg, one, two, dLen1, dListOf1, dTupOf1, dAbs1, dIntOf1, dII, marg, dAppend1, dExtend1, dIsi, isA, dSl, dPart, dNoPart, dCut, dLc, dYes, sRaise, sTry, exBy, sPar2, sPar3, dIsBl, dNotBl, dBM, dBM0, dEq, dNe, dIn, dSgn, dIsiT2, isAny, dLenSet, dLstL, dOfE, dIxL, dCon, fLen, fTup, fSum, fMax, fMin, fAll, fAny, dEqLL, dNeLL, dLenSetL, dRefL, sTryN, exByN, goneD, withD, dXf, sRaiseF, dLc2, dEnum, dListRg1, dListRg2, dTupRg1, dTupRg2, dStrOf1, dRep, dstart, fnE_nx, fnE_rt, fnE_ex, Nat.zero_le, Nat.reduceLeDiff, decide_true, decide_false, true_or, or_true, false_or, or_false, decide_eq_true_eq, exists_eq_left', exists_eq_left, exists_eq_right, exists_eq_right', Option.some.injEq, List.cons.injEq, D.int.injEq, D.bl.injEq, D.str.injEq, D.tup.injEq, D.lro.injEq, D.ref.injEq, DO.lst.injEq, and_true, true_and, and_false, false_and, exists_false, exists_const, List.getElem?_cons_zero, List.getElem?_cons_succ, List.map_cons, List.map_nil, List.length_cons, List.length_nil, List.replicate_zero, List.replicate_succ, List.append_nil, List.cons_append, List.nil_append, List.set_cons_zero, List.set_cons_succ, Nat.reduceAdd, Nat.reduceSub, Nat.zero_add, reduceIte, Bool.false_eq_true, reduceCtorEq, if_true, if_false, Bool.not_true, Bool.not_false, exists_and_left, Bool.true_xor, Bool.false_xor]
    refine ⟨a, b, width, _, rfl, hj2, by omega, w0, big_m (by omega), fun r o r0 r1 hj3 => ?_⟩
    have hx3 := hxb.bag (o := o)
    have hg : upd (upd L' pn (.lst [])) a o pn = some (.lst (([] : List Int).map D.int)) := by rw [updD_ne na, updD_same]; rfl
    generalize upd (upd L' pn (.lst [])) a o = L3 at hj3 hx3 hg
    refine ⟨⟨by omega, by omega⟩, ?_⟩
    refine game_nexts z0 z1 na nb hpn trivial (m + 140) (by omega) (rngD 0 (1 + r).toNat) _ o7 o8 (m + 1) [] (by rw [rngD_length]; omega) (hj3.mono (by omega)) hx3 hg List.nodup_nil (by simp) (.inr (by rw [rngD_length]; omega)) (by rw [rngD_length]; simp; omega) ?_
    intro L4 m' o7 o8 ns hm' hj4 hx4 hg4 hnd hin hl1 hl2
    have g5 := hx4 f _ fa h4
    have p5 := hx4 p _ pa (h3 p _ pa hp)
    simp only [d__law_game_t1b2, dVar, dC, dOp, dUn, dNil, dCons, dTup, dLst, dCB, dTest, dAnd, dOr, dNot, dAndV, dOrV, dNotV, dIfE, dChain, sNext, sSeq, sBreak, sCont, sDrop, sRet, sRetN, sIf, gdName, gdNil, gdCons, gdTup, gdSub, sAsg, dCall, xOf, sFor, dSeq, dRng1, dRng2, dI, dI0, dB0, dAdd, dIsN, dNotN, isNon, dIx, dSetL, dNeg, one, two, dLen1, dListOf1, dTupOf1, dAbs1, dIntOf1, dII, marg, dAppend1, dExtend1, dIsi, isA, dSl, dPart, dNoPart, dCut, dLc, dYes, sRaise, sTry, exBy, sPar2, sPar3, dIsBl, dNotBl, dBM, dBM0, dEq, dNe, dIn, dSgn, dIsiT2, isAny, dLenSet, dLstL, dOfE, dIxL, dCon, fLen, fTup, fSum, fMax, fMin, fAll, fAny, dEqLL, dNeLL, dLenSetL, dRefL, sTryN, exByN, goneD, withD, dXf, sRaiseF, dLc2, dEnum, dListRg1, dListRg2, dTupRg1, dTupRg2, dStrOf1, dRep, dstart, fnE_nx, fnE_rt, fnE_ex, Nat.zero_le, Nat.reduceLeDiff, decide_true, decide_false, true_or, or_true, false_or, or_false, decide_eq_true_eq, exists_eq_left', exists_eq_left, exists_eq_right, exists_eq_right', Option.some.injEq, List.cons.injEq, D.int.injEq, D.bl.injEq, D.str.injEq, D.tup.injEq, D.lro.injEq, D.ref.injEq, DO.lst.injEq, and_true, true_and, and_false, false_and, exists_false, exists_const, List.getElem?_cons_zero, List.getElem?_cons_succ, List.map_cons, List.map_nil, List.length_cons, List.length_nil, List.replicate_zero, List.replicate_succ, List.append_nil, List.cons_append, List.nil_append, List.set_cons_zero, List.set_cons_succ, Nat.reduceAdd, Nat.reduceSub, Nat.zero_add, reduceIte, Bool.false_eq_true, reduceCtorEq, if_true, if_false, Bool.not_true, Bool.not_false, exists_and_left, Bool.true_xor, Bool.false_xor, g5, lstOf_ref g5]
    refine ⟨⟨_, lstOf_ref g5⟩, ?_⟩
    refine ⟨a, b, 2, _, rfl, hj4, by omega, by decide, by decide, fun ow o ow0 ow1 hj5 => ?_⟩
    have gp : upd L4 a o p = some (.lst (ms.map .int)) := by rw [updD_ne pa]; exact p5
    have gn : upd L4 a o pn = some (.lst (ns.map .int)) := by rw [updD_ne na]; exact hg4
    have gf : upd L4 a o f = some (.lst rows) := by rw [updD_ne fa]; exact g5
    have hx5 := hx4.bag (o := o)
    generalize upd L4 a o = L5 at hj5 gp gn gf hx5
    refine ⟨_, gp, a, b, _, _, rfl, hj5, by omega, by simp; omega, big_m (by simp; omega), fun k o k0 k1 hj6 => ?_⟩
    have gp : upd L5 a o p = some (.lst (ms.map .int)) := by rw [updD_ne pa]; exact gp
    have gn : upd L5 a o pn = some (.lst (ns.map .int)) := by rw [updD_ne na]; exact gn
    have gf : upd L5 a o f = some (.lst rows) := by rw [updD_ne fa]; exact gf
    have hx6 := hx5.bag (o := o)
    generalize upd L5 a o = L6 at hj6 gp gn gf hx6
    obtain ⟨mk, hmk, hmkm⟩ := atI_ints (ns := ms) k0 (by simpa using k1)
    refine ⟨_, gp, _, hmk, _, gn, _, gf, by omega, ?_⟩
    have hxl : Ext a L (upd L6 f (.lst (rows ++ [.tup [.int ow, .int mk, .tup (ns.map .int)]]))) := fun c v hc hv => by
      have hcf : c ≠ f := by rintro rfl; rw [hf] at hv; cases hv
      rw [updD_ne hcf]
      exact hx6 c v hc (h3 c v hc hv)
    refine hP _ _ ⟨m + 142, rows ++ [.tup [.int ow, .int mk, .tup (ns.map .int)]], _, _, _, _, by omega, (hj6.off fa fb).mono (by omega), hxl, updD_same, by simp; omega, fun r hr => ?_, rfl⟩
    rcases List.mem_append.mp hr with hr | hr
    · exact h6 r hr
    · rw [List.mem_singleton] at hr
      exact ⟨ow, mk, ns, hr, ow0, by omega, hmkm, hl1, by omega, hnd, hin⟩
  · rintro s L' ⟨m, rows, o5, o6, o7, o8, h1, h2, h3, h4, h5, h6, rfl⟩
    refine ⟨trivial, ?_⟩
    simp only [d__law_game_t2, dVar, dC, dOp, dUn, dNil, dCons, dTup, dLst, dCB, dTest, dAnd, dOr, dNot, dAndV, dOrV, dNotV, dIfE, dChain, sNext, sSeq, sBreak, sCont, sDrop, sRet, sRetN, sIf, gdName, gdNil, gdCons, gdTup, gdSub, sAsg, dCall, xOf, sFor, dSeq, dRng1, dRng2, dI, dI0, dB0, dAdd, dIsN, dNotN, isNon, dIx, dSetL, dNeg, one, two, dLen1, dListOf1, dTupOf1, dAbs1, dIntOf1, dII, marg, dAppend1, dExtend1, dIsi, isA, dSl, dPart, dNoPart, dCut, dLc, dYes, sRaise, sTry, exBy, sPar2, sPar3, dIsBl, dNotBl, dBM, dBM0, dEq, dNe, dIn, dSgn, dIsiT2, isAny, dLenSet, dLstL, dOfE, dIxL, dCon, fLen, fTup, fSum, fMax, fMin, fAll, fAny, dEqLL, dNeLL, dLenSetL, dRefL, sTryN, exByN, goneD, withD, dXf, sRaiseF, dLc2, dEnum, dListRg1, dListRg2, dTupRg1, dTupRg2, dStrOf1, dRep, dstart, fnE_nx, fnE_rt, fnE_ex, Nat.zero_le, Nat.reduceLeDiff, decide_true, decide_false, true_or, or_true, false_or, or_false, decide_eq_true_eq, exists_eq_left', exists_eq_left, exists_eq_right, exists_eq_right', Option.some.injEq, List.cons.injEq, D.int.injEq, D.bl.injEq, D.str.injEq, D.tup.injEq, D.lro.injEq, D.ref.injEq, DO.lst.injEq, and_true, true_and, and_false, false_and, exists_false, exists_const, List.getElem?_cons_zero, List.getElem?_cons_succ, List.map_cons, List.map_nil, List.length_cons, List.length_nil, List.replicate_zero, List.replicate_succ, List.append_nil, List.cons_append, List.nil_append, List.set_cons_zero, List.set_cons_succ, Nat.reduceAdd, Nat.reduceSub, Nat.zero_add, reduceIte, Bool.false_eq_true, reduceCtorEq, if_true, if_false, Bool.not_true, Bool.not_false, exists_and_left, Bool.true_xor, Bool.false_xor]
    exact ⟨_, h4, endOf (q rows L' h3 (h2.mono (by simp at h1; omega)) (by simp at h5; omega) h6)⟩
/-! what is drawn is a game -/
theorem RowOk.pos {many : Int} {ms : List Int} {r : D} (h0 : ∀ m, m ∈ ms → 0 ≤ m) (h : RowOk many ms r) : isPos r many = true ∧ Pl 2 r ∧ mkD r ∈ ms := by
  obtain ⟨o, m, ns, rfl, o0, o1, hm, n1, n2, hnd, hw⟩ := h
  refine ⟨?_, pl_3 pl_int pl_int (pl_ints (by omega)), hm⟩
  show (wthn (.int o) 0 1 && isInt (.int m) && decide (0 ≤ m) && isRow (.tup (ns.map .int)) 1 1002 && ((ns.map D.int).all fun x => wthn x 0 (many - 1)) && decide ((ns.map D.int).map intV).Nodup) = true
  have e1 : isRow (.tup (ns.map .int)) 1 1002 = true := decide_eq_true (by rw [List.length_map]; omega)
  rw [wthn_of o0 o1, decide_eq_true (h0 m hm), e1, all_wthn (fun w hw' => by have := hw w hw'; omega), map_intV, decide_eq_true hnd]; rfl
theorem ddA_nodup {α : Type} [DecidableEq α] : ∀ (xs acc : List α), acc.Nodup → (ddA acc xs).Nodup
  | [], acc, h => by simpa [ddA] using h
  | x :: xs, acc, h => by
    unfold ddA
    split
    · exact ddA_nodup xs acc h
    · rename_i hx
      refine ddA_nodup xs _ ?_
      rw [List.nodup_append]
      refine ⟨h, by simp, fun y hy z hz => ?_⟩
      rw [List.mem_singleton] at hz
      rintro rfl
      subst hz
      first
        | exact hx hy
        | (apply hx; unfold memB; simpa using hy)
theorem dd_nodup {α : Type} [DecidableEq α] (xs : List α) : (dd xs).Nodup := ddA_nodup xs [] List.nodup_nil
theorem dd_sub {xs ys : List Int} (h : ∀ x, x ∈ xs → x ∈ ys) : (dd (xs.map (Sum.inl : Int → Key))).length ≤ ys.length := by
  have hn : ∀ zs : List Key, (dd zs).Nodup := dd_nodup
  have pg : ∀ (as bs : List Key), as.Nodup → (∀ x, x ∈ as → x ∈ bs) → as.length ≤ bs.length := by
    intro as
    induction as with
    | nil => intro bs _ _; simp
    | cons a as ih =>
      intro bs hnd hin
      rw [List.nodup_cons] at hnd
      have ha := hin a List.mem_cons_self
      have := ih (bs.erase a) hnd.2 fun x hx => by
        have hne : x ≠ a := by rintro rfl; exact hnd.1 hx
        exact (List.mem_erase_of_ne hne).mpr (hin x (List.mem_cons_of_mem _ hx))
      rw [List.length_erase_of_mem ha] at this
      have hp := List.length_pos_of_mem ha
      simp
      omega
  have := pg (dd (xs.map (Sum.inl : Int → Key))) (ys.map Sum.inl) (hn _) fun k hk => by
    rw [dd_mem] at hk
    obtain ⟨x, hx, rfl⟩ := List.mem_map.mp hk
    exact List.mem_map_of_mem (h x hx)
  simpa using this
theorem game_ok {rows : List D} {ms : List Int} (h : ∀ r, r ∈ rows → RowOk rows.length ms r) (h1 : 1 ≤ rows.length) (h2 : rows.length ≤ 10000) (hm : ms.length ≤ 20) (h0 : ∀ m, m ∈ ms → 0 ≤ m) : isGame (.tup rows) = true ∧ Pl 3 (.tup rows) := by
  refine ⟨?_, pl_tup (by omega) fun r hr => ((h r hr).pos h0).2.1⟩
  show (decide (1 ≤ rows.length ∧ rows.length ≤ 10000) && rows.all (fun r => isPos r rows.length) && decide ((dd ((marksI rows).map (Sum.inl : Int → Key))).length ≤ 20)) = true
  have e2 : (rows.all fun r => isPos r rows.length) = true := List.all_eq_true.mpr fun r hr => ((h r hr).pos h0).1
  have e3 : (dd ((marksI rows).map (Sum.inl : Int → Key))).length ≤ ms.length := dd_sub fun x hx => by
    obtain ⟨r, hr, rfl⟩ := List.mem_map.mp (show x ∈ rows.map mkD from hx)
    exact ((h r hr).pos h0).2.2
  rw [decide_eq_true ⟨h1, h2⟩, e2, decide_eq_true (by omega)]; rfl
end D2

set_option Elab.async false
set_option linter.all false
set_option maxRecDepth 100000
set_option maxHeartbeats 1000000
namespace D2
open PySem PySem.Spec PyProof.Rows L2
/-! ### the rows of a game -/
def rowNx (rows : List D) (v : Int) : List Int := nxD (rows.getD v.toNat .non)
def rowMk (rows : List D) (v : Int) : Int := mkD (rows.getD v.toNat .non)
theorem game_len {rows : List D} (h : isGame (.tup rows) = true) : 1 ≤ rows.length ∧ rows.length ≤ 10000 ∧ ∀ r, r ∈ rows → isPos r rows.length = true := by
  have h : (decide (1 ≤ rows.length ∧ rows.length ≤ 10000) && rows.all (fun r => isPos r rows.length) && decide ((dd ((marksI rows).map (Sum.inl : Int → Key))).length ≤ 20)) = true := h
  rw [Bool.and_eq_true, Bool.and_eq_true, decide_eq_true_eq] at h
  exact ⟨h.1.1.1, h.1.1.2, fun r hr => List.all_eq_true.mp h.1.2 r hr⟩
theorem getD_at {xs : List D} {k : Nat} (h : k < xs.length) : xs[k]? = some (xs.getD k .non) := by
  rw [List.getD_eq_getElem?_getD, List.getElem?_eq_getElem h]; rfl
theorem atI_getD {xs : List D} {i : Int} (h0 : 0 ≤ i) (h1 : i < xs.length) : atI xs i = some (xs.getD i.toNat .non) := by
  have := atI_nat (getD_at (xs := xs) (k := i.toNat) (by omega))
  rwa [show ((i.toNat : Nat) : Int) = i by omega] at this
theorem atI_end {xs : List D} (h : xs ≠ []) : atI xs (-1) = some (xs.getD (xs.length - 1) .non) := by
  obtain ⟨pre, x, rfl⟩ : ∃ pre x, xs = pre ++ [x] := by
    rcases List.eq_nil_or_concat xs with e | ⟨pre, x, e⟩
    · exact absurd e h
    · exact ⟨pre, x, by simpa using e⟩
  have e1 : (pre ++ [x]).getD ((pre ++ [x]).length - 1) D.non = x := by simp [List.getD_eq_getElem?_getD]
  rw [e1]
  unfold L2.atI
  have : ixN (pre ++ [x]).length (-1) = some pre.length := by
    unfold ixN
    simp
    omega
  rw [this]
  simp
theorem game_at {rows : List D} (h : isGame (.tup rows) = true) {v : Int} (v0 : 0 ≤ v) (v1 : v < rows.length) : ∃ o : Int, atI rows v = some (.tup [.int o, .int (rowMk rows v), .tup ((rowNx rows v).map .int)]) ∧ 1 ≤ (rowNx rows v).length ∧ (rowNx rows v).length ≤ 1002 ∧
    (∀ w, w ∈ rowNx rows v → 0 ≤ w ∧ w < rows.length) ∧ 0 ≤ rowMk rows v := by
  have hr := (game_len h).2.2 _ (List.mem_of_getElem? (getD_at (xs := rows) (k := v.toNat) (by omega)))
  obtain ⟨e, o0, o1, m0, n1, n2, hw, _⟩ := isPos_of hr
  refine ⟨_, (atI_getD v0 v1).trans (congrArg some e), n1, n2, fun w hw' => ?_, m0⟩
  exact hw w hw'
theorem len2 {xs : List D} (h : xs.length = 2) : ∃ a b, xs = [a, b] := by
  match xs, h with
  | [a, b], _ => exact ⟨a, b, rfl⟩
theorem tup_or (d : D) : (∃ xs, d = .tup xs) ∨ ∀ xs, d ≠ .tup xs := by
  cases d with
  | tup xs => exact .inl ⟨xs, rfl⟩
  | _ => exact .inr fun xs h => by cases h
theorem isA_no {L : DH} {d : D} (hk : Known L d) (h : ∀ xs, d ≠ .tup xs) : isA L d .tup = some false := by
  cases d with
  | tup xs => exact absurd rfl (h xs)
  | ref a =>
    obtain ⟨xs, e⟩ := hk
    show (match L a with | some (.lst _) => some (decide (Ty.tup = Ty.lst)) | _ => none) = _
    rw [e]; rfl
  | exc _ _ _ _ _ => exact hk.elim
  | _ => rfl
theorem eqD_tupnil {L : DH} {n : Nat} {xs : List D} (h : Tm L (.tup xs)) : eqD L (.tup xs) (.tup []) = some xs.isEmpty := by
  obtain ⟨n, hn, ht⟩ := h
  obtain ⟨p, e⟩ := ht.py60 hn
  rw [eqD_of e (by rw [show (60 : Nat) = 59 + 1 from rfl, pyL_tup]; rfl)]
  rw [show (60 : Nat) = 59 + 1 from rfl, pyL_tup] at e
  obtain ⟨ps, h1, rfl⟩ := Option.map_eq_some_iff.mp e
  cases xs with
  | nil => cases h1; rfl
  | cons x xs =>
    obtain ⟨y, ys, _, _, rfl⟩ := optAll_cons h1
    rfl
/-! ### is it the same -/
def sp_law_same : Nat → SpD
  | 0 => fun _ _ _ _ => False
  | n + 1 => fun ds L Q _ => ∃ d, ds = [d, d] ∧ Pl n d ∧ Q (.bl true) L
theorem len_law_same (n : Nat) : ∀ as L Q E, sp_law_same (n + 1) as L Q E → as.length = 2 := by rintro _ L Q E ⟨d, rfl, _⟩; rfl
def d__law_same_t1a1 (n : Nat) : DS :=
  (sRet (dEqLL (dOfE (dLc (dRng1 (dCons (dCB dLen (dCons (dVar 1) dNil)) dNil)) (gdName 2) (dNot (dTest (dCall (sp_law_same n) (dCons (dOp dIx (dVar 0) (dVar 2)) (dCons (dOp dIx (dVar 1) (dVar 2)) dNil))))) (dVar 2) [2])) (dLstL dNil)))
def d__law_same_t3 (n : Nat) : DS :=
  (sRet (dAndV (dIsiT2 .int .str (dVar 0)) (dOp dEq (dVar 0) (dVar 1))))
def d__law_same_t2 (n : Nat) : DS :=
  (sSeq (sIf (dOr (dTest (dOp dNe (dIsi .bool (dVar 0)) (dIsi .bool (dVar 1)))) (dTest (dOp dNe (dIsi .str (dVar 0)) (dIsi .str (dVar 1))))) (sRet (dC (.bl false))) sNext) (d__law_same_t3 n))
def d__law_same_t1 (n : Nat) : DS :=
  (sSeq (sIf (dTest (dIsi .tup (dVar 1))) (sSeq (sIf (dOr (dNot (dTest (dIsi .tup (dVar 0)))) (dTest (dOp dNe (dCB dLen (dCons (dVar 0) dNil)) (dCB dLen (dCons (dVar 1) dNil))))) (sRet (dC (.bl false))) sNext) (d__law_same_t1a1 n)) sNext) (d__law_same_t2 n))
def d__law_same (n : Nat) : DS :=
  (sSeq (sIf (dOr (dTest (dOp dIsN (dVar 1) (dC .non))) (dTest (dOp dIsN (dVar 0) (dC .non)))) (sRet (dAndV (dOp dIsN (dVar 0) (dC .non)) (dOp dIsN (dVar 1) (dC .non)))) sNext) (d__law_same_t1 n))

theorem pure_law_same (n : Nat) : ∀ as L Q E, sp_law_same (n + 1) as L Q E → d__law_same n (fnEnds Q E) (dstart 3 as) L := by
  rintro as L Q E ⟨d, rfl, hp, q⟩
  have q' := endOf q
  cases d with
  | exc _ _ _ _ _ => cases n <;> exact (show False from hp).elim
  | lro xs => cases n <;> exact (show False from hp).elim
  | ref a => cases n <;> (obtain ⟨p, e⟩ := hp; cases e)
  | tup xs =>
    cases n with
    | zero => exact hp.elim
    | succ n =>
    simp only [d__law_same, d__law_same_t1, d__law_same_t1a1, dVar, dC, dOp, dUn, dNil, dCons, dTup, dLst, dCB, dTest, dAnd, dOr, dNot, dAndV, dOrV, dNotV, dIfE, dChain, sNext, sSeq, sBreak, sCont, sDrop, sRet, sRetN, sIf, gdName, gdNil, gdCons, gdTup, gdSub, sAsg, dCall, xOf, sFor, dSeq, dRng1, dRng2, dI, dI0, dB0, dAdd, dIsN, dNotN, isNon, dIx, dSetL, dNeg, one, two, dLen1, dListOf1, dTupOf1, dAbs1, dIntOf1, dII, marg, dAppend1, dExtend1, dIsi, isA, dSl, dPart, dNoPart, dCut, dLc, dYes, sRaise, sTry, exBy, sPar2, sPar3, dIsBl, dNotBl, dBM, dBM0, dEq, dNe, dIn, dSgn, dIsiT2, isAny, dLenSet, dLstL, dOfE, dIxL, dCon, fLen, fTup, fSum, fMax, fMin, fAll, fAny, dEqLL, dNeLL, dLenSetL, dRefL, sTryN, exByN, goneD, withD, dXf, sRaiseF, dLc2, dEnum, dListRg1, dListRg2, dTupRg1, dTupRg2, dStrOf1, dRep, dstart, fnE_nx, fnE_rt, fnE_ex, Nat.zero_le, Nat.reduceLeDiff, decide_true, decide_false, true_or, or_true, false_or, or_false, decide_eq_true_eq, exists_eq_left', exists_eq_left, exists_eq_right, exists_eq_right', Option.some.injEq, List.cons.injEq, D.int.injEq, D.bl.injEq, D.str.injEq, D.tup.injEq, D.lro.injEq, D.ref.injEq, DO.lst.injEq, and_true, true_and, and_false, false_and, exists_false, exists_const, List.getElem?_cons_zero, List.getElem?_cons_succ, List.map_cons, List.map_nil, List.length_cons, List.length_nil, List.replicate_zero, List.replicate_succ, List.append_nil, List.cons_append, List.nil_append, List.set_cons_zero, List.set_cons_succ, Nat.reduceAdd, Nat.reduceSub, Nat.zero_add, reduceIte, Bool.false_eq_true, reduceCtorEq, if_true, if_false, Bool.not_true, Bool.not_false, exists_and_left, Bool.true_xor, Bool.false_xor, dwipe, eqD_int, beq_self_eq_true]
    have hl := hp.1
    refine ⟨⟨by omega, by omega⟩, ?_⟩
    refine lcD_pure (fun _ => false) id L trivial _ (fun d hd Kt Kf h1 h2 => ?_) [] (by rw [rngD_length]; simp; omega) fun p hp0 => keep_new ?_ hp0
    · obtain ⟨i, rfl, i0, i1⟩ := mem_rngD hd
      obtain ⟨x, hx, _, hxm⟩ := atI_in (xs := xs) i0 (by omega)
      simp only [dVar, dC, dOp, dUn, dNil, dCons, dTup, dLst, dCB, dTest, dAnd, dOr, dNot, dAndV, dOrV, dNotV, dIfE, dChain, sNext, sSeq, sBreak, sCont, sDrop, sRet, sRetN, sIf, gdName, gdNil, gdCons, gdTup, gdSub, sAsg, dCall, xOf, sFor, dSeq, dRng1, dRng2, dI, dI0, dB0, dAdd, dIsN, dNotN, isNon, dIx, dSetL, dNeg, one, two, dLen1, dListOf1, dTupOf1, dAbs1, dIntOf1, dII, marg, dAppend1, dExtend1, dIsi, isA, dSl, dPart, dNoPart, dCut, dLc, dYes, sRaise, sTry, exBy, sPar2, sPar3, dIsBl, dNotBl, dBM, dBM0, dEq, dNe, dIn, dSgn, dIsiT2, isAny, dLenSet, dLstL, dOfE, dIxL, dCon, fLen, fTup, fSum, fMax, fMin, fAll, fAny, dEqLL, dNeLL, dLenSetL, dRefL, sTryN, exByN, goneD, withD, dXf, sRaiseF, dLc2, dEnum, dListRg1, dListRg2, dTupRg1, dTupRg2, dStrOf1, dRep, dstart, fnE_nx, fnE_rt, fnE_ex, Nat.zero_le, Nat.reduceLeDiff, decide_true, decide_false, true_or, or_true, false_or, or_false, decide_eq_true_eq, exists_eq_left', exists_eq_left, exists_eq_right, exists_eq_right', Option.some.injEq, List.cons.injEq, D.int.injEq, D.bl.injEq, D.str.injEq, D.tup.injEq, D.lro.injEq, D.ref.injEq, DO.lst.injEq, and_true, true_and, and_false, false_and, exists_false, exists_const, List.getElem?_cons_zero, List.getElem?_cons_succ, List.map_cons, List.map_nil, List.length_cons, List.length_nil, List.replicate_zero, List.replicate_succ, List.append_nil, List.cons_append, List.nil_append, List.set_cons_zero, List.set_cons_succ, Nat.reduceAdd, Nat.reduceSub, Nat.zero_add, reduceIte, Bool.false_eq_true, reduceCtorEq, if_true, if_false, Bool.not_true, Bool.not_false, exists_and_left, Bool.true_xor, Bool.false_xor]
      refine ⟨x, hx, x, hx, x, rfl, hp.2 x hxm, true, rfl, by simpa using h2 rfl⟩
    · have e : ([] ++ ((rngD 0 (xs.length : Int).toNat).filter fun _ => false).map id) = ([] : List D) := by simp
      rw [e]
      exact ⟨true, eqL_nil (ps := []) rfl, q'⟩
  | non =>
    simp only [d__law_same, dVar, dC, dOp, dUn, dNil, dCons, dTup, dLst, dCB, dTest, dAnd, dOr, dNot, dAndV, dOrV, dNotV, dIfE, dChain, sNext, sSeq, sBreak, sCont, sDrop, sRet, sRetN, sIf, gdName, gdNil, gdCons, gdTup, gdSub, sAsg, dCall, xOf, sFor, dSeq, dRng1, dRng2, dI, dI0, dB0, dAdd, dIsN, dNotN, isNon, dIx, dSetL, dNeg, one, two, dLen1, dListOf1, dTupOf1, dAbs1, dIntOf1, dII, marg, dAppend1, dExtend1, dIsi, isA, dSl, dPart, dNoPart, dCut, dLc, dYes, sRaise, sTry, exBy, sPar2, sPar3, dIsBl, dNotBl, dBM, dBM0, dEq, dNe, dIn, dSgn, dIsiT2, isAny, dLenSet, dLstL, dOfE, dIxL, dCon, fLen, fTup, fSum, fMax, fMin, fAll, fAny, dEqLL, dNeLL, dLenSetL, dRefL, sTryN, exByN, goneD, withD, dXf, sRaiseF, dLc2, dEnum, dListRg1, dListRg2, dTupRg1, dTupRg2, dStrOf1, dRep, dstart, fnE_nx, fnE_rt, fnE_ex, Nat.zero_le, Nat.reduceLeDiff, decide_true, decide_false, true_or, or_true, false_or, or_false, decide_eq_true_eq, exists_eq_left', exists_eq_left, exists_eq_right, exists_eq_right', Option.some.injEq, List.cons.injEq, D.int.injEq, D.bl.injEq, D.str.injEq, D.tup.injEq, D.lro.injEq, D.ref.injEq, DO.lst.injEq, and_true, true_and, and_false, false_and, exists_false, exists_const, List.getElem?_cons_zero, List.getElem?_cons_succ, List.map_cons, List.map_nil, List.length_cons, List.length_nil, List.replicate_zero, List.replicate_succ, List.append_nil, List.cons_append, List.nil_append, List.set_cons_zero, List.set_cons_succ, Nat.reduceAdd, Nat.reduceSub, Nat.zero_add, reduceIte, Bool.false_eq_true, reduceCtorEq, if_true, if_false, Bool.not_true, Bool.not_false, exists_and_left, Bool.true_xor, Bool.false_xor]
    exact q'
  | bl b =>
    simp only [d__law_same, d__law_same_t1, d__law_same_t2, d__law_same_t3, dVar, dC, dOp, dUn, dNil, dCons, dTup, dLst, dCB, dTest, dAnd, dOr, dNot, dAndV, dOrV, dNotV, dIfE, dChain, sNext, sSeq, sBreak, sCont, sDrop, sRet, sRetN, sIf, gdName, gdNil, gdCons, gdTup, gdSub, sAsg, dCall, xOf, sFor, dSeq, dRng1, dRng2, dI, dI0, dB0, dAdd, dIsN, dNotN, isNon, dIx, dSetL, dNeg, one, two, dLen1, dListOf1, dTupOf1, dAbs1, dIntOf1, dII, marg, dAppend1, dExtend1, dIsi, isA, dSl, dPart, dNoPart, dCut, dLc, dYes, sRaise, sTry, exBy, sPar2, sPar3, dIsBl, dNotBl, dBM, dBM0, dEq, dNe, dIn, dSgn, dIsiT2, isAny, dLenSet, dLstL, dOfE, dIxL, dCon, fLen, fTup, fSum, fMax, fMin, fAll, fAny, dEqLL, dNeLL, dLenSetL, dRefL, sTryN, exByN, goneD, withD, dXf, sRaiseF, dLc2, dEnum, dListRg1, dListRg2, dTupRg1, dTupRg2, dStrOf1, dRep, dstart, fnE_nx, fnE_rt, fnE_ex, Nat.zero_le, Nat.reduceLeDiff, decide_true, decide_false, true_or, or_true, false_or, or_false, decide_eq_true_eq, exists_eq_left', exists_eq_left, exists_eq_right, exists_eq_right', Option.some.injEq, List.cons.injEq, D.int.injEq, D.bl.injEq, D.str.injEq, D.tup.injEq, D.lro.injEq, D.ref.injEq, DO.lst.injEq, and_true, true_and, and_false, false_and, exists_false, exists_const, List.getElem?_cons_zero, List.getElem?_cons_succ, List.map_cons, List.map_nil, List.length_cons, List.length_nil, List.replicate_zero, List.replicate_succ, List.append_nil, List.cons_append, List.nil_append, List.set_cons_zero, List.set_cons_succ, Nat.reduceAdd, Nat.reduceSub, Nat.zero_add, reduceIte, Bool.false_eq_true, reduceCtorEq, if_true, if_false, Bool.not_true, Bool.not_false, exists_and_left, Bool.true_xor, Bool.false_xor, eqD_bl, beq_self_eq_true, Bool.not_true]
    exact q'
  | int i =>
    simp only [d__law_same, d__law_same_t1, d__law_same_t2, d__law_same_t3, dVar, dC, dOp, dUn, dNil, dCons, dTup, dLst, dCB, dTest, dAnd, dOr, dNot, dAndV, dOrV, dNotV, dIfE, dChain, sNext, sSeq, sBreak, sCont, sDrop, sRet, sRetN, sIf, gdName, gdNil, gdCons, gdTup, gdSub, sAsg, dCall, xOf, sFor, dSeq, dRng1, dRng2, dI, dI0, dB0, dAdd, dIsN, dNotN, isNon, dIx, dSetL, dNeg, one, two, dLen1, dListOf1, dTupOf1, dAbs1, dIntOf1, dII, marg, dAppend1, dExtend1, dIsi, isA, dSl, dPart, dNoPart, dCut, dLc, dYes, sRaise, sTry, exBy, sPar2, sPar3, dIsBl, dNotBl, dBM, dBM0, dEq, dNe, dIn, dSgn, dIsiT2, isAny, dLenSet, dLstL, dOfE, dIxL, dCon, fLen, fTup, fSum, fMax, fMin, fAll, fAny, dEqLL, dNeLL, dLenSetL, dRefL, sTryN, exByN, goneD, withD, dXf, sRaiseF, dLc2, dEnum, dListRg1, dListRg2, dTupRg1, dTupRg2, dStrOf1, dRep, dstart, fnE_nx, fnE_rt, fnE_ex, Nat.zero_le, Nat.reduceLeDiff, decide_true, decide_false, true_or, or_true, false_or, or_false, decide_eq_true_eq, exists_eq_left', exists_eq_left, exists_eq_right, exists_eq_right', Option.some.injEq, List.cons.injEq, D.int.injEq, D.bl.injEq, D.str.injEq, D.tup.injEq, D.lro.injEq, D.ref.injEq, DO.lst.injEq, and_true, true_and, and_false, false_and, exists_false, exists_const, List.getElem?_cons_zero, List.getElem?_cons_succ, List.map_cons, List.map_nil, List.length_cons, List.length_nil, List.replicate_zero, List.replicate_succ, List.append_nil, List.cons_append, List.nil_append, List.set_cons_zero, List.set_cons_succ, Nat.reduceAdd, Nat.reduceSub, Nat.zero_add, reduceIte, Bool.false_eq_true, reduceCtorEq, if_true, if_false, Bool.not_true, Bool.not_false, exists_and_left, Bool.true_xor, Bool.false_xor, eqD_bl, eqD_int, beq_self_eq_true, Bool.not_true]
    exact q'
  | str z =>
    simp only [d__law_same, d__law_same_t1, d__law_same_t2, d__law_same_t3, dVar, dC, dOp, dUn, dNil, dCons, dTup, dLst, dCB, dTest, dAnd, dOr, dNot, dAndV, dOrV, dNotV, dIfE, dChain, sNext, sSeq, sBreak, sCont, sDrop, sRet, sRetN, sIf, gdName, gdNil, gdCons, gdTup, gdSub, sAsg, dCall, xOf, sFor, dSeq, dRng1, dRng2, dI, dI0, dB0, dAdd, dIsN, dNotN, isNon, dIx, dSetL, dNeg, one, two, dLen1, dListOf1, dTupOf1, dAbs1, dIntOf1, dII, marg, dAppend1, dExtend1, dIsi, isA, dSl, dPart, dNoPart, dCut, dLc, dYes, sRaise, sTry, exBy, sPar2, sPar3, dIsBl, dNotBl, dBM, dBM0, dEq, dNe, dIn, dSgn, dIsiT2, isAny, dLenSet, dLstL, dOfE, dIxL, dCon, fLen, fTup, fSum, fMax, fMin, fAll, fAny, dEqLL, dNeLL, dLenSetL, dRefL, sTryN, exByN, goneD, withD, dXf, sRaiseF, dLc2, dEnum, dListRg1, dListRg2, dTupRg1, dTupRg2, dStrOf1, dRep, dstart, fnE_nx, fnE_rt, fnE_ex, Nat.zero_le, Nat.reduceLeDiff, decide_true, decide_false, true_or, or_true, false_or, or_false, decide_eq_true_eq, exists_eq_left', exists_eq_left, exists_eq_right, exists_eq_right', Option.some.injEq, List.cons.injEq, D.int.injEq, D.bl.injEq, D.str.injEq, D.tup.injEq, D.lro.injEq, D.ref.injEq, DO.lst.injEq, and_true, true_and, and_false, false_and, exists_false, exists_const, List.getElem?_cons_zero, List.getElem?_cons_succ, List.map_cons, List.map_nil, List.length_cons, List.length_nil, List.replicate_zero, List.replicate_succ, List.append_nil, List.cons_append, List.nil_append, List.set_cons_zero, List.set_cons_succ, Nat.reduceAdd, Nat.reduceSub, Nat.zero_add, reduceIte, Bool.false_eq_true, reduceCtorEq, if_true, if_false, Bool.not_true, Bool.not_false, exists_and_left, Bool.true_xor, Bool.false_xor, eqD_bl, eqD_str, beq_self_eq_true, Bool.not_true]
    exact q'
end D2

set_option Elab.async false
set_option linter.all false
set_option maxRecDepth 100000
set_option maxHeartbeats 1000000
namespace D2
open PySem PySem.Spec PyProof.Rows L2
/-! ### tables of a player, and answers -/
def rowOw (rows : List D) (v : Int) : Int := ownD (rows.getD v.toNat .non)
theorem game_at2 {rows : List D} (h : isGame (.tup rows) = true) {v : Int} (v0 : 0 ≤ v) (v1 : v < rows.length) : atI rows v = some (.tup [.int (rowOw rows v), .int (rowMk rows v), .tup ((rowNx rows v).map .int)]) ∧ 0 ≤ rowOw rows v ∧ rowOw rows v ≤ 1 ∧ 1 ≤ (rowNx rows v).length ∧ (rowNx rows v).length ≤ 1002 ∧
    (∀ w, w ∈ rowNx rows v → 0 ≤ w ∧ w < rows.length) := by
  have hr := (game_len h).2.2 _ (List.mem_of_getElem? (getD_at (xs := rows) (k := v.toNat) (by omega)))
  obtain ⟨e, o0, o1, m0, n1, n2, hw, _⟩ := isPos_of hr
  exact ⟨(atI_getD v0 v1).trans (congrArg some e), o0, o1, n1, n2, fun w hw' => hw w hw'⟩
def sp_need_position : SpD := fun ds L Q _ => ∃ (rows : List D) (v : Int), ds = [.tup rows, .int v] ∧ 0 ≤ v ∧ v < rows.length ∧ Q .non L
theorem len_need_position : ∀ as L Q E, sp_need_position as L Q E → as.length = 2 := by rintro _ L Q E ⟨r, v, rfl, _⟩; rfl
def d_need_position : DS :=
  (sIf (dNot (dTest (dCall sp_within (dCons (dVar 1) (dCons (dC (.int 0)) (dCons (dOp dSub (dCB dLen (dCons (dVar 0) dNil)) (dC (.int 1))) dNil)))))) (sRaise "BadPosition") sNext)

theorem pure_need_position : ∀ as L Q E, sp_need_position as L Q E → d_need_position (fnEnds Q E) (dstart 2 as) L := by
  rintro as L Q E ⟨rows, v, rfl, v0, v1, q⟩
  simp only [d_need_position, dVar, dC, dOp, dUn, dNil, dCons, dTup, dLst, dCB, dTest, dAnd, dOr, dNot, dAndV, dOrV, dNotV, dIfE, dChain, sNext, sSeq, sBreak, sCont, sDrop, sRet, sRetN, sIf, gdName, gdNil, gdCons, gdTup, gdSub, sAsg, dCall, xOf, sFor, dSeq, dRng1, dRng2, dI, dI0, dB0, dAdd, dIsN, dNotN, isNon, dIx, dSetL, dNeg, one, two, dLen1, dListOf1, dTupOf1, dAbs1, dIntOf1, dII, marg, dAppend1, dExtend1, dIsi, isA, dSl, dPart, dNoPart, dCut, dLc, dYes, sRaise, sTry, exBy, sPar2, sPar3, dIsBl, dNotBl, dBM, dBM0, dEq, dNe, dIn, dSgn, dIsiT2, isAny, dLenSet, dLstL, dOfE, dIxL, dCon, fLen, fTup, fSum, fMax, fMin, fAll, fAny, dEqLL, dNeLL, dLenSetL, dRefL, sTryN, exByN, goneD, withD, dXf, sRaiseF, dLc2, dEnum, dListRg1, dListRg2, dTupRg1, dTupRg2, dStrOf1, dRep, dstart, fnE_nx, fnE_rt, fnE_ex, Nat.zero_le, Nat.reduceLeDiff, decide_true, decide_false, true_or, or_true, false_or, or_false, decide_eq_true_eq, exists_eq_left', exists_eq_left, exists_eq_right, exists_eq_right', Option.some.injEq, List.cons.injEq, D.int.injEq, D.bl.injEq, D.str.injEq, D.tup.injEq, D.lro.injEq, D.ref.injEq, DO.lst.injEq, and_true, true_and, and_false, false_and, exists_false, exists_const, List.getElem?_cons_zero, List.getElem?_cons_succ, List.map_cons, List.map_nil, List.length_cons, List.length_nil, List.replicate_zero, List.replicate_succ, List.append_nil, List.cons_append, List.nil_append, List.set_cons_zero, List.set_cons_succ, Nat.reduceAdd, Nat.reduceSub, Nat.zero_add, reduceIte, Bool.false_eq_true, reduceCtorEq, if_true, if_false, Bool.not_true, Bool.not_false, exists_and_left, Bool.true_xor, Bool.false_xor, dDGet, dDIn, dDNewK, dDNewT, sDPutD, dKyE, dKyT, keyD]
  refine ⟨.int v, _, _, rfl, trivial, ?_⟩
  rw [wthn_of v0 (by omega)]
  simp only [dVar, dC, dOp, dUn, dNil, dCons, dTup, dLst, dCB, dTest, dAnd, dOr, dNot, dAndV, dOrV, dNotV, dIfE, dChain, sNext, sSeq, sBreak, sCont, sDrop, sRet, sRetN, sIf, gdName, gdNil, gdCons, gdTup, gdSub, sAsg, dCall, xOf, sFor, dSeq, dRng1, dRng2, dI, dI0, dB0, dAdd, dIsN, dNotN, isNon, dIx, dSetL, dNeg, one, two, dLen1, dListOf1, dTupOf1, dAbs1, dIntOf1, dII, marg, dAppend1, dExtend1, dIsi, isA, dSl, dPart, dNoPart, dCut, dLc, dYes, sRaise, sTry, exBy, sPar2, sPar3, dIsBl, dNotBl, dBM, dBM0, dEq, dNe, dIn, dSgn, dIsiT2, isAny, dLenSet, dLstL, dOfE, dIxL, dCon, fLen, fTup, fSum, fMax, fMin, fAll, fAny, dEqLL, dNeLL, dLenSetL, dRefL, sTryN, exByN, goneD, withD, dXf, sRaiseF, dLc2, dEnum, dListRg1, dListRg2, dTupRg1, dTupRg2, dStrOf1, dRep, dstart, fnE_nx, fnE_rt, fnE_ex, Nat.zero_le, Nat.reduceLeDiff, decide_true, decide_false, true_or, or_true, false_or, or_false, decide_eq_true_eq, exists_eq_left', exists_eq_left, exists_eq_right, exists_eq_right', Option.some.injEq, List.cons.injEq, D.int.injEq, D.bl.injEq, D.str.injEq, D.tup.injEq, D.lro.injEq, D.ref.injEq, DO.lst.injEq, and_true, true_and, and_false, false_and, exists_false, exists_const, List.getElem?_cons_zero, List.getElem?_cons_succ, List.map_cons, List.map_nil, List.length_cons, List.length_nil, List.replicate_zero, List.replicate_succ, List.append_nil, List.cons_append, List.nil_append, List.set_cons_zero, List.set_cons_succ, Nat.reduceAdd, Nat.reduceSub, Nat.zero_add, reduceIte, Bool.false_eq_true, reduceCtorEq, if_true, if_false, Bool.not_true, Bool.not_false, exists_and_left, Bool.true_xor, Bool.false_xor, dDGet, dDIn, dDNewK, dDNewT, sDPutD, dKyE, dKyT, keyD]
  exact endOf q
def sp_need_player : SpD := fun ds L Q _ => ∃ (v : Int), ds = [.int v] ∧ 0 ≤ v ∧ v ≤ 1 ∧ Q .non L
theorem len_need_player : ∀ as L Q E, sp_need_player as L Q E → as.length = 1 := by rintro _ L Q E ⟨v, rfl, _⟩; rfl
def d_need_player : DS :=
  (sIf (dNot (dTest (dCall sp_within (dCons (dVar 0) (dCons (dC (.int 0)) (dCons (dC (.int 1)) dNil)))))) (sRaise "BadPlayer") sNext)

theorem pure_need_player : ∀ as L Q E, sp_need_player as L Q E → d_need_player (fnEnds Q E) (dstart 1 as) L := by
  rintro as L Q E ⟨v, rfl, v0, v1, q⟩
  simp only [d_need_player, dVar, dC, dOp, dUn, dNil, dCons, dTup, dLst, dCB, dTest, dAnd, dOr, dNot, dAndV, dOrV, dNotV, dIfE, dChain, sNext, sSeq, sBreak, sCont, sDrop, sRet, sRetN, sIf, gdName, gdNil, gdCons, gdTup, gdSub, sAsg, dCall, xOf, sFor, dSeq, dRng1, dRng2, dI, dI0, dB0, dAdd, dIsN, dNotN, isNon, dIx, dSetL, dNeg, one, two, dLen1, dListOf1, dTupOf1, dAbs1, dIntOf1, dII, marg, dAppend1, dExtend1, dIsi, isA, dSl, dPart, dNoPart, dCut, dLc, dYes, sRaise, sTry, exBy, sPar2, sPar3, dIsBl, dNotBl, dBM, dBM0, dEq, dNe, dIn, dSgn, dIsiT2, isAny, dLenSet, dLstL, dOfE, dIxL, dCon, fLen, fTup, fSum, fMax, fMin, fAll, fAny, dEqLL, dNeLL, dLenSetL, dRefL, sTryN, exByN, goneD, withD, dXf, sRaiseF, dLc2, dEnum, dListRg1, dListRg2, dTupRg1, dTupRg2, dStrOf1, dRep, dstart, fnE_nx, fnE_rt, fnE_ex, Nat.zero_le, Nat.reduceLeDiff, decide_true, decide_false, true_or, or_true, false_or, or_false, decide_eq_true_eq, exists_eq_left', exists_eq_left, exists_eq_right, exists_eq_right', Option.some.injEq, List.cons.injEq, D.int.injEq, D.bl.injEq, D.str.injEq, D.tup.injEq, D.lro.injEq, D.ref.injEq, DO.lst.injEq, and_true, true_and, and_false, false_and, exists_false, exists_const, List.getElem?_cons_zero, List.getElem?_cons_succ, List.map_cons, List.map_nil, List.length_cons, List.length_nil, List.replicate_zero, List.replicate_succ, List.append_nil, List.cons_append, List.nil_append, List.set_cons_zero, List.set_cons_succ, Nat.reduceAdd, Nat.reduceSub, Nat.zero_add, reduceIte, Bool.false_eq_true, reduceCtorEq, if_true, if_false, Bool.not_true, Bool.not_false, exists_and_left, Bool.true_xor, Bool.false_xor, dDGet, dDIn, dDNewK, dDNewT, sDPutD, dKyE, dKyT, keyD]
  refine ⟨.int v, _, _, rfl, trivial, ?_⟩
  rw [wthn_of v0 v1]
  simp only [dVar, dC, dOp, dUn, dNil, dCons, dTup, dLst, dCB, dTest, dAnd, dOr, dNot, dAndV, dOrV, dNotV, dIfE, dChain, sNext, sSeq, sBreak, sCont, sDrop, sRet, sRetN, sIf, gdName, gdNil, gdCons, gdTup, gdSub, sAsg, dCall, xOf, sFor, dSeq, dRng1, dRng2, dI, dI0, dB0, dAdd, dIsN, dNotN, isNon, dIx, dSetL, dNeg, one, two, dLen1, dListOf1, dTupOf1, dAbs1, dIntOf1, dII, marg, dAppend1, dExtend1, dIsi, isA, dSl, dPart, dNoPart, dCut, dLc, dYes, sRaise, sTry, exBy, sPar2, sPar3, dIsBl, dNotBl, dBM, dBM0, dEq, dNe, dIn, dSgn, dIsiT2, isAny, dLenSet, dLstL, dOfE, dIxL, dCon, fLen, fTup, fSum, fMax, fMin, fAll, fAny, dEqLL, dNeLL, dLenSetL, dRefL, sTryN, exByN, goneD, withD, dXf, sRaiseF, dLc2, dEnum, dListRg1, dListRg2, dTupRg1, dTupRg2, dStrOf1, dRep, dstart, fnE_nx, fnE_rt, fnE_ex, Nat.zero_le, Nat.reduceLeDiff, decide_true, decide_false, true_or, or_true, false_or, or_false, decide_eq_true_eq, exists_eq_left', exists_eq_left, exists_eq_right, exists_eq_right', Option.some.injEq, List.cons.injEq, D.int.injEq, D.bl.injEq, D.str.injEq, D.tup.injEq, D.lro.injEq, D.ref.injEq, DO.lst.injEq, and_true, true_and, and_false, false_and, exists_false, exists_const, List.getElem?_cons_zero, List.getElem?_cons_succ, List.map_cons, List.map_nil, List.length_cons, List.length_nil, List.replicate_zero, List.replicate_succ, List.append_nil, List.cons_append, List.nil_append, List.set_cons_zero, List.set_cons_succ, Nat.reduceAdd, Nat.reduceSub, Nat.zero_add, reduceIte, Bool.false_eq_true, reduceCtorEq, if_true, if_false, Bool.not_true, Bool.not_false, exists_and_left, Bool.true_xor, Bool.false_xor, dDGet, dDIn, dDNewK, dDNewT, sDPutD, dKyE, dKyT, keyD]
  exact endOf q
/-- an entry that a table of the player may hold at v -/
def EntT (rows : List D) (pl v : Int) (e : D) : Prop := e = .non ∨ ∃ x : Int, e = .int x ∧ x ∈ rowNx rows v ∧ rowOw rows v = pl
structure TabT (rows : List D) (pl : Int) (tb : List D) : Prop where
  len : tb.length = rows.length
  ent : ∀ v : Int, 0 ≤ v → v < rows.length → EntT rows pl v (tb.getD v.toNat .non)
def sp_is_entry : SpD := fun ds L Q _ => ∃ (rows : List D) (pl v : Int) (e : D), ds = [.tup [.int (rowOw rows v), .int (rowMk rows v), .tup ((rowNx rows v).map .int)], .int pl, e] ∧ EntT rows pl v e ∧ Q (.bl true) L
theorem len_is_entry : ∀ as L Q E, sp_is_entry as L Q E → as.length = 3 := by rintro _ L Q E ⟨r, p, v, e, rfl, _⟩; rfl
def d_is_entry_t1 : DS :=
  (sRet (dAndV (dOp dEq (dOp dIx (dVar 0) (dC (.int 0))) (dVar 1)) (dAndV (dCall sp_is_int (dCons (dVar 2) dNil)) (dOp (dIn false) (dVar 2) (dOp dIx (dVar 0) (dC (.int 2)))))))
def d_is_entry : DS :=
  (sSeq (sIf (dTest (dOp dIsN (dVar 2) (dC .non))) (sRet (dC (.bl true))) sNext) d_is_entry_t1)

theorem pure_is_entry : ∀ as L Q E, sp_is_entry as L Q E → d_is_entry (fnEnds Q E) (dstart 3 as) L := by
  rintro as L Q E ⟨rows, pl, v, e, rfl, he, q⟩
  have q' := endOf q
  rcases he with rfl | ⟨x, rfl, hx, ho⟩
  · simp only [d_is_entry, dVar, dC, dOp, dUn, dNil, dCons, dTup, dLst, dCB, dTest, dAnd, dOr, dNot, dAndV, dOrV, dNotV, dIfE, dChain, sNext, sSeq, sBreak, sCont, sDrop, sRet, sRetN, sIf, gdName, gdNil, gdCons, gdTup, gdSub, sAsg, dCall, xOf, sFor, dSeq, dRng1, dRng2, dI, dI0, dB0, dAdd, dIsN, dNotN, isNon, dIx, dSetL, dNeg, one, two, dLen1, dListOf1, dTupOf1, dAbs1, dIntOf1, dII, marg, dAppend1, dExtend1, dIsi, isA, dSl, dPart, dNoPart, dCut, dLc, dYes, sRaise, sTry, exBy, sPar2, sPar3, dIsBl, dNotBl, dBM, dBM0, dEq, dNe, dIn, dSgn, dIsiT2, isAny, dLenSet, dLstL, dOfE, dIxL, dCon, fLen, fTup, fSum, fMax, fMin, fAll, fAny, dEqLL, dNeLL, dLenSetL, dRefL, sTryN, exByN, goneD, withD, dXf, sRaiseF, dLc2, dEnum, dListRg1, dListRg2, dTupRg1, dTupRg2, dStrOf1, dRep, dstart, fnE_nx, fnE_rt, fnE_ex, Nat.zero_le, Nat.reduceLeDiff, decide_true, decide_false, true_or, or_true, false_or, or_false, decide_eq_true_eq, exists_eq_left', exists_eq_left, exists_eq_right, exists_eq_right', Option.some.injEq, List.cons.injEq, D.int.injEq, D.bl.injEq, D.str.injEq, D.tup.injEq, D.lro.injEq, D.ref.injEq, DO.lst.injEq, and_true, true_and, and_false, false_and, exists_false, exists_const, List.getElem?_cons_zero, List.getElem?_cons_succ, List.map_cons, List.map_nil, List.length_cons, List.length_nil, List.replicate_zero, List.replicate_succ, List.append_nil, List.cons_append, List.nil_append, List.set_cons_zero, List.set_cons_succ, Nat.reduceAdd, Nat.reduceSub, Nat.zero_add, reduceIte, Bool.false_eq_true, reduceCtorEq, if_true, if_false, Bool.not_true, Bool.not_false, exists_and_left, Bool.true_xor, Bool.false_xor, dDGet, dDIn, dDNewK, dDNewT, sDPutD, dKyE, dKyT, keyD]
    exact q'
  · simp only [d_is_entry, dVar, dC, dOp, dUn, dNil, dCons, dTup, dLst, dCB, dTest, dAnd, dOr, dNot, dAndV, dOrV, dNotV, dIfE, dChain, sNext, sSeq, sBreak, sCont, sDrop, sRet, sRetN, sIf, gdName, gdNil, gdCons, gdTup, gdSub, sAsg, dCall, xOf, sFor, dSeq, dRng1, dRng2, dI, dI0, dB0, dAdd, dIsN, dNotN, isNon, dIx, dSetL, dNeg, one, two, dLen1, dListOf1, dTupOf1, dAbs1, dIntOf1, dII, marg, dAppend1, dExtend1, dIsi, isA, dSl, dPart, dNoPart, dCut, dLc, dYes, sRaise, sTry, exBy, sPar2, sPar3, dIsBl, dNotBl, dBM, dBM0, dEq, dNe, dIn, dSgn, dIsiT2, isAny, dLenSet, dLstL, dOfE, dIxL, dCon, fLen, fTup, fSum, fMax, fMin, fAll, fAny, dEqLL, dNeLL, dLenSetL, dRefL, sTryN, exByN, goneD, withD, dXf, sRaiseF, dLc2, dEnum, dListRg1, dListRg2, dTupRg1, dTupRg2, dStrOf1, dRep, dstart, fnE_nx, fnE_rt, fnE_ex, Nat.zero_le, Nat.reduceLeDiff, decide_true, decide_false, true_or, or_true, false_or, or_false, decide_eq_true_eq, exists_eq_left', exists_eq_left, exists_eq_right, exists_eq_right', Option.some.injEq, List.cons.injEq, D.int.injEq, D.bl.injEq, D.str.injEq, D.tup.injEq, D.lro.injEq, D.ref.injEq, DO.lst.injEq, and_true, true_and, and_false, false_and, exists_false, exists_const, List.getElem?_cons_zero, List.getElem?_cons_succ, List.map_cons, List.map_nil, List.length_cons, List.length_nil, List.replicate_zero, List.replicate_succ, List.append_nil, List.cons_append, List.nil_append, List.set_cons_zero, List.set_cons_succ, Nat.reduceAdd, Nat.reduceSub, Nat.zero_add, reduceIte, Bool.false_eq_true, reduceCtorEq, if_true, if_false, Bool.not_true, Bool.not_false, exists_and_left, Bool.true_xor, Bool.false_xor, dDGet, dDIn, dDNewK, dDNewT, sDPutD, dKyE, dKyT, keyD]
    simp only [d_is_entry_t1, dVar, dC, dOp, dUn, dNil, dCons, dTup, dLst, dCB, dTest, dAnd, dOr, dNot, dAndV, dOrV, dNotV, dIfE, dChain, sNext, sSeq, sBreak, sCont, sDrop, sRet, sRetN, sIf, gdName, gdNil, gdCons, gdTup, gdSub, sAsg, dCall, xOf, sFor, dSeq, dRng1, dRng2, dI, dI0, dB0, dAdd, dIsN, dNotN, isNon, dIx, dSetL, dNeg, one, two, dLen1, dListOf1, dTupOf1, dAbs1, dIntOf1, dII, marg, dAppend1, dExtend1, dIsi, isA, dSl, dPart, dNoPart, dCut, dLc, dYes, sRaise, sTry, exBy, sPar2, sPar3, dIsBl, dNotBl, dBM, dBM0, dEq, dNe, dIn, dSgn, dIsiT2, isAny, dLenSet, dLstL, dOfE, dIxL, dCon, fLen, fTup, fSum, fMax, fMin, fAll, fAny, dEqLL, dNeLL, dLenSetL, dRefL, sTryN, exByN, goneD, withD, dXf, sRaiseF, dLc2, dEnum, dListRg1, dListRg2, dTupRg1, dTupRg2, dStrOf1, dRep, dstart, fnE_nx, fnE_rt, fnE_ex, Nat.zero_le, Nat.reduceLeDiff, decide_true, decide_false, true_or, or_true, false_or, or_false, decide_eq_true_eq, exists_eq_left', exists_eq_left, exists_eq_right, exists_eq_right', Option.some.injEq, List.cons.injEq, D.int.injEq, D.bl.injEq, D.str.injEq, D.tup.injEq, D.lro.injEq, D.ref.injEq, DO.lst.injEq, and_true, true_and, and_false, false_and, exists_false, exists_const, List.getElem?_cons_zero, List.getElem?_cons_succ, List.map_cons, List.map_nil, List.length_cons, List.length_nil, List.replicate_zero, List.replicate_succ, List.append_nil, List.cons_append, List.nil_append, List.set_cons_zero, List.set_cons_succ, Nat.reduceAdd, Nat.reduceSub, Nat.zero_add, reduceIte, Bool.false_eq_true, reduceCtorEq, if_true, if_false, Bool.not_true, Bool.not_false, exists_and_left, Bool.true_xor, Bool.false_xor, dDGet, dDIn, dDNewK, dDNewT, sDPutD, dKyE, dKyT, keyD]
    refine ⟨_, atI0, _, eqD_int _ _, ?_⟩
    rw [ho, beq_self_eq_true, if_pos rfl]
    refine ⟨.int x, rfl, trivial, ?_⟩
    simp only [isInt, dVar, dC, dOp, dUn, dNil, dCons, dTup, dLst, dCB, dTest, dAnd, dOr, dNot, dAndV, dOrV, dNotV, dIfE, dChain, sNext, sSeq, sBreak, sCont, sDrop, sRet, sRetN, sIf, gdName, gdNil, gdCons, gdTup, gdSub, sAsg, dCall, xOf, sFor, dSeq, dRng1, dRng2, dI, dI0, dB0, dAdd, dIsN, dNotN, isNon, dIx, dSetL, dNeg, one, two, dLen1, dListOf1, dTupOf1, dAbs1, dIntOf1, dII, marg, dAppend1, dExtend1, dIsi, isA, dSl, dPart, dNoPart, dCut, dLc, dYes, sRaise, sTry, exBy, sPar2, sPar3, dIsBl, dNotBl, dBM, dBM0, dEq, dNe, dIn, dSgn, dIsiT2, isAny, dLenSet, dLstL, dOfE, dIxL, dCon, fLen, fTup, fSum, fMax, fMin, fAll, fAny, dEqLL, dNeLL, dLenSetL, dRefL, sTryN, exByN, goneD, withD, dXf, sRaiseF, dLc2, dEnum, dListRg1, dListRg2, dTupRg1, dTupRg2, dStrOf1, dRep, dstart, fnE_nx, fnE_rt, fnE_ex, Nat.zero_le, Nat.reduceLeDiff, decide_true, decide_false, true_or, or_true, false_or, or_false, decide_eq_true_eq, exists_eq_left', exists_eq_left, exists_eq_right, exists_eq_right', Option.some.injEq, List.cons.injEq, D.int.injEq, D.bl.injEq, D.str.injEq, D.tup.injEq, D.lro.injEq, D.ref.injEq, DO.lst.injEq, and_true, true_and, and_false, false_and, exists_false, exists_const, List.getElem?_cons_zero, List.getElem?_cons_succ, List.map_cons, List.map_nil, List.length_cons, List.length_nil, List.replicate_zero, List.replicate_succ, List.append_nil, List.cons_append, List.nil_append, List.set_cons_zero, List.set_cons_succ, Nat.reduceAdd, Nat.reduceSub, Nat.zero_add, reduceIte, Bool.false_eq_true, reduceCtorEq, if_true, if_false, Bool.not_true, Bool.not_false, exists_and_left, Bool.true_xor, Bool.false_xor, dDGet, dDIn, dDNewK, dDNewT, sDPutD, dKyE, dKyT, keyD]
    refine ⟨_, atI2, _, in_intsT x, ?_⟩
    rw [decide_eq_true hx]
    exact q'
def sp_are_entries : SpD := fun ds L Q _ => ∃ (rows tb : List D) (pl : Int), ds = [.tup rows, .int pl, .tup tb] ∧ isGame (.tup rows) = true ∧ TabT rows pl tb ∧ Q (.bl true) L
theorem len_are_entries : ∀ as L Q E, sp_are_entries as L Q E → as.length = 3 := by rintro _ L Q E ⟨r, t, p, rfl, _⟩; rfl
def d_are_entries_t1 : DS :=
  (sRet (dCon fAll (dOfE (dLc (dRng1 (dCons (dCB dLen (dCons (dVar 0) dNil)) dNil)) (gdName 3) dYes (dCall sp_is_entry (dCons (dOp dIx (dVar 0) (dVar 3)) (dCons (dVar 1) (dCons (dOp dIx (dVar 2) (dVar 3)) dNil)))) [3]))))
def d_are_entries : DS :=
  (sSeq (sIf (dOr (dNot (dTest (dIsi .tup (dVar 2)))) (dTest (dOp dNe (dCB dLen (dCons (dVar 2) dNil)) (dCB dLen (dCons (dVar 0) dNil))))) (sRet (dC (.bl false))) sNext) d_are_entries_t1)

theorem pure_are_entries : ∀ as L Q E, sp_are_entries as L Q E → d_are_entries (fnEnds Q E) (dstart 4 as) L := by
  rintro as L Q E ⟨rows, tb, pl, rfl, hg, ht, q⟩
  obtain ⟨g1, g2, _⟩ := game_len hg
  simp only [d_are_entries, dVar, dC, dOp, dUn, dNil, dCons, dTup, dLst, dCB, dTest, dAnd, dOr, dNot, dAndV, dOrV, dNotV, dIfE, dChain, sNext, sSeq, sBreak, sCont, sDrop, sRet, sRetN, sIf, gdName, gdNil, gdCons, gdTup, gdSub, sAsg, dCall, xOf, sFor, dSeq, dRng1, dRng2, dI, dI0, dB0, dAdd, dIsN, dNotN, isNon, dIx, dSetL, dNeg, one, two, dLen1, dListOf1, dTupOf1, dAbs1, dIntOf1, dII, marg, dAppend1, dExtend1, dIsi, isA, dSl, dPart, dNoPart, dCut, dLc, dYes, sRaise, sTry, exBy, sPar2, sPar3, dIsBl, dNotBl, dBM, dBM0, dEq, dNe, dIn, dSgn, dIsiT2, isAny, dLenSet, dLstL, dOfE, dIxL, dCon, fLen, fTup, fSum, fMax, fMin, fAll, fAny, dEqLL, dNeLL, dLenSetL, dRefL, sTryN, exByN, goneD, withD, dXf, sRaiseF, dLc2, dEnum, dListRg1, dListRg2, dTupRg1, dTupRg2, dStrOf1, dRep, dstart, fnE_nx, fnE_rt, fnE_ex, Nat.zero_le, Nat.reduceLeDiff, decide_true, decide_false, true_or, or_true, false_or, or_false, decide_eq_true_eq, exists_eq_left', exists_eq_left, exists_eq_right, exists_eq_right', Option.some.injEq, List.cons.injEq, D.int.injEq, D.bl.injEq, D.str.injEq, D.tup.injEq, D.lro.injEq, D.ref.injEq, DO.lst.injEq, and_true, true_and, and_false, false_and, exists_false, exists_const, List.getElem?_cons_zero, List.getElem?_cons_succ, List.map_cons, List.map_nil, List.length_cons, List.length_nil, List.replicate_zero, List.replicate_succ, List.append_nil, List.cons_append, List.nil_append, List.set_cons_zero, List.set_cons_succ, Nat.reduceAdd, Nat.reduceSub, Nat.zero_add, reduceIte, Bool.false_eq_true, reduceCtorEq, if_true, if_false, Bool.not_true, Bool.not_false, exists_and_left, Bool.true_xor, Bool.false_xor, dDGet, dDIn, dDNewK, dDNewT, sDPutD, dKyE, dKyT, keyD, ht.len, eqD_int]
  simp only [bne_self_eq_false, beq_self_eq_true, dVar, dC, dOp, dUn, dNil, dCons, dTup, dLst, dCB, dTest, dAnd, dOr, dNot, dAndV, dOrV, dNotV, dIfE, dChain, sNext, sSeq, sBreak, sCont, sDrop, sRet, sRetN, sIf, gdName, gdNil, gdCons, gdTup, gdSub, sAsg, dCall, xOf, sFor, dSeq, dRng1, dRng2, dI, dI0, dB0, dAdd, dIsN, dNotN, isNon, dIx, dSetL, dNeg, one, two, dLen1, dListOf1, dTupOf1, dAbs1, dIntOf1, dII, marg, dAppend1, dExtend1, dIsi, isA, dSl, dPart, dNoPart, dCut, dLc, dYes, sRaise, sTry, exBy, sPar2, sPar3, dIsBl, dNotBl, dBM, dBM0, dEq, dNe, dIn, dSgn, dIsiT2, isAny, dLenSet, dLstL, dOfE, dIxL, dCon, fLen, fTup, fSum, fMax, fMin, fAll, fAny, dEqLL, dNeLL, dLenSetL, dRefL, sTryN, exByN, goneD, withD, dXf, sRaiseF, dLc2, dEnum, dListRg1, dListRg2, dTupRg1, dTupRg2, dStrOf1, dRep, dstart, fnE_nx, fnE_rt, fnE_ex, Nat.zero_le, Nat.reduceLeDiff, decide_true, decide_false, true_or, or_true, false_or, or_false, decide_eq_true_eq, exists_eq_left', exists_eq_left, exists_eq_right, exists_eq_right', Option.some.injEq, List.cons.injEq, D.int.injEq, D.bl.injEq, D.str.injEq, D.tup.injEq, D.lro.injEq, D.ref.injEq, DO.lst.injEq, and_true, true_and, and_false, false_and, exists_false, exists_const, List.getElem?_cons_zero, List.getElem?_cons_succ, List.map_cons, List.map_nil, List.length_cons, List.length_nil, List.replicate_zero, List.replicate_succ, List.append_nil, List.cons_append, List.nil_append, List.set_cons_zero, List.set_cons_succ, Nat.reduceAdd, Nat.reduceSub, Nat.zero_add, reduceIte, Bool.false_eq_true, reduceCtorEq, if_true, if_false, Bool.not_true, Bool.not_false, exists_and_left, Bool.true_xor, Bool.false_xor, dDGet, dDIn, dDNewK, dDNewT, sDPutD, dKyE, dKyT, keyD]
  simp only [d_are_entries_t1, dVar, dC, dOp, dUn, dNil, dCons, dTup, dLst, dCB, dTest, dAnd, dOr, dNot, dAndV, dOrV, dNotV, dIfE, dChain, sNext, sSeq, sBreak, sCont, sDrop, sRet, sRetN, sIf, gdName, gdNil, gdCons, gdTup, gdSub, sAsg, dCall, xOf, sFor, dSeq, dRng1, dRng2, dI, dI0, dB0, dAdd, dIsN, dNotN, isNon, dIx, dSetL, dNeg, one, two, dLen1, dListOf1, dTupOf1, dAbs1, dIntOf1, dII, marg, dAppend1, dExtend1, dIsi, isA, dSl, dPart, dNoPart, dCut, dLc, dYes, sRaise, sTry, exBy, sPar2, sPar3, dIsBl, dNotBl, dBM, dBM0, dEq, dNe, dIn, dSgn, dIsiT2, isAny, dLenSet, dLstL, dOfE, dIxL, dCon, fLen, fTup, fSum, fMax, fMin, fAll, fAny, dEqLL, dNeLL, dLenSetL, dRefL, sTryN, exByN, goneD, withD, dXf, sRaiseF, dLc2, dEnum, dListRg1, dListRg2, dTupRg1, dTupRg2, dStrOf1, dRep, dstart, fnE_nx, fnE_rt, fnE_ex, Nat.zero_le, Nat.reduceLeDiff, decide_true, decide_false, true_or, or_true, false_or, or_false, decide_eq_true_eq, exists_eq_left', exists_eq_left, exists_eq_right, exists_eq_right', Option.some.injEq, List.cons.injEq, D.int.injEq, D.bl.injEq, D.str.injEq, D.tup.injEq, D.lro.injEq, D.ref.injEq, DO.lst.injEq, and_true, true_and, and_false, false_and, exists_false, exists_const, List.getElem?_cons_zero, List.getElem?_cons_succ, List.map_cons, List.map_nil, List.length_cons, List.length_nil, List.replicate_zero, List.replicate_succ, List.append_nil, List.cons_append, List.nil_append, List.set_cons_zero, List.set_cons_succ, Nat.reduceAdd, Nat.reduceSub, Nat.zero_add, reduceIte, Bool.false_eq_true, reduceCtorEq, if_true, if_false, Bool.not_true, Bool.not_false, exists_and_left, Bool.true_xor, Bool.false_xor, dDGet, dDIn, dDNewK, dDNewT, sDPutD, dKyE, dKyT, keyD, dwipe]
  refine ⟨⟨by omega, by omega⟩, ?_⟩
  refine lcD_map (fun _ => .bl true) L trivial _ (fun d hd Kt hK Kf => ?_) [] (by rw [rngD_length]; simp; omega) fun p hp => keep_new ?_ hp
  · obtain ⟨v, rfl, v0, v1⟩ := mem_rngD hd
    have v1 : v < rows.length := by omega
    obtain ⟨hat, _⟩ := game_at2 hg v0 v1
    simp only [dVar, dC, dOp, dUn, dNil, dCons, dTup, dLst, dCB, dTest, dAnd, dOr, dNot, dAndV, dOrV, dNotV, dIfE, dChain, sNext, sSeq, sBreak, sCont, sDrop, sRet, sRetN, sIf, gdName, gdNil, gdCons, gdTup, gdSub, sAsg, dCall, xOf, sFor, dSeq, dRng1, dRng2, dI, dI0, dB0, dAdd, dIsN, dNotN, isNon, dIx, dSetL, dNeg, one, two, dLen1, dListOf1, dTupOf1, dAbs1, dIntOf1, dII, marg, dAppend1, dExtend1, dIsi, isA, dSl, dPart, dNoPart, dCut, dLc, dYes, sRaise, sTry, exBy, sPar2, sPar3, dIsBl, dNotBl, dBM, dBM0, dEq, dNe, dIn, dSgn, dIsiT2, isAny, dLenSet, dLstL, dOfE, dIxL, dCon, fLen, fTup, fSum, fMax, fMin, fAll, fAny, dEqLL, dNeLL, dLenSetL, dRefL, sTryN, exByN, goneD, withD, dXf, sRaiseF, dLc2, dEnum, dListRg1, dListRg2, dTupRg1, dTupRg2, dStrOf1, dRep, dstart, fnE_nx, fnE_rt, fnE_ex, Nat.zero_le, Nat.reduceLeDiff, decide_true, decide_false, true_or, or_true, false_or, or_false, decide_eq_true_eq, exists_eq_left', exists_eq_left, exists_eq_right, exists_eq_right', Option.some.injEq, List.cons.injEq, D.int.injEq, D.bl.injEq, D.str.injEq, D.tup.injEq, D.lro.injEq, D.ref.injEq, DO.lst.injEq, and_true, true_and, and_false, false_and, exists_false, exists_const, List.getElem?_cons_zero, List.getElem?_cons_succ, List.map_cons, List.map_nil, List.length_cons, List.length_nil, List.replicate_zero, List.replicate_succ, List.append_nil, List.cons_append, List.nil_append, List.set_cons_zero, List.set_cons_succ, Nat.reduceAdd, Nat.reduceSub, Nat.zero_add, reduceIte, Bool.false_eq_true, reduceCtorEq, if_true, if_false, Bool.not_true, Bool.not_false, exists_and_left, Bool.true_xor, Bool.false_xor, dDGet, dDIn, dDNewK, dDNewT, sDPutD, dKyE, dKyT, keyD]
    refine ⟨_, hat, _, atI_getD v0 (by rw [ht.len]; exact v1), rows, pl, v, _, rfl, ht.ent v v0 v1, hK⟩
  · refine ⟨List.replicate rows.length true, ?_, ?_⟩
    · rw [List.nil_append, List.map_const', rngD_length, List.map_replicate]
      simp
    · have : (List.replicate rows.length true).all id = true := by simp
      rw [this]
      exact endOf q
def sp_need_table : SpD := fun ds L Q _ => ∃ (rows tb : List D) (pl : Int), ds = [.tup rows, .int pl, .tup tb] ∧ isGame (.tup rows) = true ∧ Tm L (.tup rows) ∧ rows.length ≤ 4000 ∧ 0 ≤ pl ∧ pl ≤ 1 ∧ TabT rows pl tb ∧ Q .non L
theorem len_need_table : ∀ as L Q E, sp_need_table as L Q E → as.length = 3 := by rintro _ L Q E ⟨r, t, p, rfl, _⟩; rfl
def d_need_table_t2 : DS :=
  (sIf (dNot (dTest (dCall sp_are_entries (dCons (dVar 0) (dCons (dVar 1) (dCons (dVar 2) dNil)))))) (sRaise "BadTable") sNext)
def d_need_table_t1 : DS :=
  (sSeq (sDrop (dCall sp_need_player (dCons (dVar 1) dNil))) d_need_table_t2)
def d_need_table : DS :=
  (sSeq (sDrop (dCall sp_need_game (dCons (dVar 0) dNil))) d_need_table_t1)

theorem pure_need_table : ∀ as L Q E, sp_need_table as L Q E → d_need_table (fnEnds Q E) (dstart 3 as) L := by
  rintro as L Q E ⟨rows, tb, pl, rfl, hg, hrt, hr4, p0, p1, ht, q⟩
  simp only [d_need_table, dVar, dC, dOp, dUn, dNil, dCons, dTup, dLst, dCB, dTest, dAnd, dOr, dNot, dAndV, dOrV, dNotV, dIfE, dChain, sNext, sSeq, sBreak, sCont, sDrop, sRet, sRetN, sIf, gdName, gdNil, gdCons, gdTup, gdSub, sAsg, dCall, xOf, sFor, dSeq, dRng1, dRng2, dI, dI0, dB0, dAdd, dIsN, dNotN, isNon, dIx, dSetL, dNeg, one, two, dLen1, dListOf1, dTupOf1, dAbs1, dIntOf1, dII, marg, dAppend1, dExtend1, dIsi, isA, dSl, dPart, dNoPart, dCut, dLc, dYes, sRaise, sTry, exBy, sPar2, sPar3, dIsBl, dNotBl, dBM, dBM0, dEq, dNe, dIn, dSgn, dIsiT2, isAny, dLenSet, dLstL, dOfE, dIxL, dCon, fLen, fTup, fSum, fMax, fMin, fAll, fAny, dEqLL, dNeLL, dLenSetL, dRefL, sTryN, exByN, goneD, withD, dXf, sRaiseF, dLc2, dEnum, dListRg1, dListRg2, dTupRg1, dTupRg2, dStrOf1, dRep, dstart, fnE_nx, fnE_rt, fnE_ex, Nat.zero_le, Nat.reduceLeDiff, decide_true, decide_false, true_or, or_true, false_or, or_false, decide_eq_true_eq, exists_eq_left', exists_eq_left, exists_eq_right, exists_eq_right', Option.some.injEq, List.cons.injEq, D.int.injEq, D.bl.injEq, D.str.injEq, D.tup.injEq, D.lro.injEq, D.ref.injEq, DO.lst.injEq, and_true, true_and, and_false, false_and, exists_false, exists_const, List.getElem?_cons_zero, List.getElem?_cons_succ, List.map_cons, List.map_nil, List.length_cons, List.length_nil, List.replicate_zero, List.replicate_succ, List.append_nil, List.cons_append, List.nil_append, List.set_cons_zero, List.set_cons_succ, Nat.reduceAdd, Nat.reduceSub, Nat.zero_add, reduceIte, Bool.false_eq_true, reduceCtorEq, if_true, if_false, Bool.not_true, Bool.not_false, exists_and_left, Bool.true_xor, Bool.false_xor, dDGet, dDIn, dDNewK, dDNewT, sDPutD, dKyE, dKyT, keyD]
  refine ⟨.tup rows, rfl, hrt, (fun r h => by cases h; exact hr4), fun _ => ?_, fun h => by rw [hg] at h; cases h⟩
  simp only [d_need_table_t1, dVar, dC, dOp, dUn, dNil, dCons, dTup, dLst, dCB, dTest, dAnd, dOr, dNot, dAndV, dOrV, dNotV, dIfE, dChain, sNext, sSeq, sBreak, sCont, sDrop, sRet, sRetN, sIf, gdName, gdNil, gdCons, gdTup, gdSub, sAsg, dCall, xOf, sFor, dSeq, dRng1, dRng2, dI, dI0, dB0, dAdd, dIsN, dNotN, isNon, dIx, dSetL, dNeg, one, two, dLen1, dListOf1, dTupOf1, dAbs1, dIntOf1, dII, marg, dAppend1, dExtend1, dIsi, isA, dSl, dPart, dNoPart, dCut, dLc, dYes, sRaise, sTry, exBy, sPar2, sPar3, dIsBl, dNotBl, dBM, dBM0, dEq, dNe, dIn, dSgn, dIsiT2, isAny, dLenSet, dLstL, dOfE, dIxL, dCon, fLen, fTup, fSum, fMax, fMin, fAll, fAny, dEqLL, dNeLL, dLenSetL, dRefL, sTryN, exByN, goneD, withD, dXf, sRaiseF, dLc2, dEnum, dListRg1, dListRg2, dTupRg1, dTupRg2, dStrOf1, dRep, dstart, fnE_nx, fnE_rt, fnE_ex, Nat.zero_le, Nat.reduceLeDiff, decide_true, decide_false, true_or, or_true, false_or, or_false, decide_eq_true_eq, exists_eq_left', exists_eq_left, exists_eq_right, exists_eq_right', Option.some.injEq, List.cons.injEq, D.int.injEq, D.bl.injEq, D.str.injEq, D.tup.injEq, D.lro.injEq, D.ref.injEq, DO.lst.injEq, and_true, true_and, and_false, false_and, exists_false, exists_const, List.getElem?_cons_zero, List.getElem?_cons_succ, List.map_cons, List.map_nil, List.length_cons, List.length_nil, List.replicate_zero, List.replicate_succ, List.append_nil, List.cons_append, List.nil_append, List.set_cons_zero, List.set_cons_succ, Nat.reduceAdd, Nat.reduceSub, Nat.zero_add, reduceIte, Bool.false_eq_true, reduceCtorEq, if_true, if_false, Bool.not_true, Bool.not_false, exists_and_left, Bool.true_xor, Bool.false_xor, dDGet, dDIn, dDNewK, dDNewT, sDPutD, dKyE, dKyT, keyD]
  refine ⟨pl, rfl, p0, p1, ?_⟩
  simp only [d_need_table_t2, dVar, dC, dOp, dUn, dNil, dCons, dTup, dLst, dCB, dTest, dAnd, dOr, dNot, dAndV, dOrV, dNotV, dIfE, dChain, sNext, sSeq, sBreak, sCont, sDrop, sRet, sRetN, sIf, gdName, gdNil, gdCons, gdTup, gdSub, sAsg, dCall, xOf, sFor, dSeq, dRng1, dRng2, dI, dI0, dB0, dAdd, dIsN, dNotN, isNon, dIx, dSetL, dNeg, one, two, dLen1, dListOf1, dTupOf1, dAbs1, dIntOf1, dII, marg, dAppend1, dExtend1, dIsi, isA, dSl, dPart, dNoPart, dCut, dLc, dYes, sRaise, sTry, exBy, sPar2, sPar3, dIsBl, dNotBl, dBM, dBM0, dEq, dNe, dIn, dSgn, dIsiT2, isAny, dLenSet, dLstL, dOfE, dIxL, dCon, fLen, fTup, fSum, fMax, fMin, fAll, fAny, dEqLL, dNeLL, dLenSetL, dRefL, sTryN, exByN, goneD, withD, dXf, sRaiseF, dLc2, dEnum, dListRg1, dListRg2, dTupRg1, dTupRg2, dStrOf1, dRep, dstart, fnE_nx, fnE_rt, fnE_ex, Nat.zero_le, Nat.reduceLeDiff, decide_true, decide_false, true_or, or_true, false_or, or_false, decide_eq_true_eq, exists_eq_left', exists_eq_left, exists_eq_right, exists_eq_right', Option.some.injEq, List.cons.injEq, D.int.injEq, D.bl.injEq, D.str.injEq, D.tup.injEq, D.lro.injEq, D.ref.injEq, DO.lst.injEq, and_true, true_and, and_false, false_and, exists_false, exists_const, List.getElem?_cons_zero, List.getElem?_cons_succ, List.map_cons, List.map_nil, List.length_cons, List.length_nil, List.replicate_zero, List.replicate_succ, List.append_nil, List.cons_append, List.nil_append, List.set_cons_zero, List.set_cons_succ, Nat.reduceAdd, Nat.reduceSub, Nat.zero_add, reduceIte, Bool.false_eq_true, reduceCtorEq, if_true, if_false, Bool.not_true, Bool.not_false, exists_and_left, Bool.true_xor, Bool.false_xor, dDGet, dDIn, dDNewK, dDNewT, sDPutD, dKyE, dKyT, keyD]
  refine ⟨rows, tb, pl, rfl, hg, ht, ?_⟩
  simp only [dVar, dC, dOp, dUn, dNil, dCons, dTup, dLst, dCB, dTest, dAnd, dOr, dNot, dAndV, dOrV, dNotV, dIfE, dChain, sNext, sSeq, sBreak, sCont, sDrop, sRet, sRetN, sIf, gdName, gdNil, gdCons, gdTup, gdSub, sAsg, dCall, xOf, sFor, dSeq, dRng1, dRng2, dI, dI0, dB0, dAdd, dIsN, dNotN, isNon, dIx, dSetL, dNeg, one, two, dLen1, dListOf1, dTupOf1, dAbs1, dIntOf1, dII, marg, dAppend1, dExtend1, dIsi, isA, dSl, dPart, dNoPart, dCut, dLc, dYes, sRaise, sTry, exBy, sPar2, sPar3, dIsBl, dNotBl, dBM, dBM0, dEq, dNe, dIn, dSgn, dIsiT2, isAny, dLenSet, dLstL, dOfE, dIxL, dCon, fLen, fTup, fSum, fMax, fMin, fAll, fAny, dEqLL, dNeLL, dLenSetL, dRefL, sTryN, exByN, goneD, withD, dXf, sRaiseF, dLc2, dEnum, dListRg1, dListRg2, dTupRg1, dTupRg2, dStrOf1, dRep, dstart, fnE_nx, fnE_rt, fnE_ex, Nat.zero_le, Nat.reduceLeDiff, decide_true, decide_false, true_or, or_true, false_or, or_false, decide_eq_true_eq, exists_eq_left', exists_eq_left, exists_eq_right, exists_eq_right', Option.some.injEq, List.cons.injEq, D.int.injEq, D.bl.injEq, D.str.injEq, D.tup.injEq, D.lro.injEq, D.ref.injEq, DO.lst.injEq, and_true, true_and, and_false, false_and, exists_false, exists_const, List.getElem?_cons_zero, List.getElem?_cons_succ, List.map_cons, List.map_nil, List.length_cons, List.length_nil, List.replicate_zero, List.replicate_succ, List.append_nil, List.cons_append, List.nil_append, List.set_cons_zero, List.set_cons_succ, Nat.reduceAdd, Nat.reduceSub, Nat.zero_add, reduceIte, Bool.false_eq_true, reduceCtorEq, if_true, if_false, Bool.not_true, Bool.not_false, exists_and_left, Bool.true_xor, Bool.false_xor, dDGet, dDIn, dDNewK, dDNewT, sDPutD, dKyE, dKyT, keyD]
  exact endOf q
/-- answers that are let -/
def ansOk (d : D) : Bool := match d with
  | .tup xs => decide (1 ≤ xs.length ∧ xs.length ≤ 1000) && xs.all fun x => isInt x && decide (0 ≤ intV x)
  | _ => false
def sp_need_answers : SpD := fun ds L Q E => ∃ (d : D), ds = [d, .int 1, .int 1000] ∧ Tm L d ∧ (ansOk d = true → Q .non L) ∧ (ansOk d = false → E "BadAnswers" [] L)
theorem len_need_answers : ∀ as L Q E, sp_need_answers as L Q E → as.length = 3 := by rintro _ L Q E ⟨d, rfl, _⟩; rfl
def d_need_answers_t1 : DS :=
  (sIf (dNot (dTest (dCon fAll (dOfE (dLc (dSeq (dVar 0)) (gdName 3) dYes (dAndV (dCall sp_is_int (dCons (dVar 3) dNil)) (dOp dGe (dVar 3) (dC (.int 0)))) [3]))))) (sRaise "BadAnswers") sNext)
def d_need_answers : DS :=
  (sSeq (sIf (dOr (dNot (dTest (dIsi .tup (dVar 0)))) (dNot (dTest (dChain dLe dLe (dVar 1) (dCB dLen (dCons (dVar 0) dNil)) (dVar 2))))) (sRaise "BadAnswers") sNext) d_need_answers_t1)

theorem pure_need_answers : ∀ as L Q E, sp_need_answers as L Q E → d_need_answers (fnEnds Q E) (dstart 4 as) L := by
  rintro as L Q E ⟨d, rfl, ht, q1, q2⟩
  have hkn := ht.known
  rcases tup_or d with ⟨xs, rfl⟩ | hno
  · have ea : ansOk (.tup xs) = (decide (1 ≤ xs.length ∧ xs.length ≤ 1000) && xs.all fun x => isInt x && decide (0 ≤ intV x)) := rfl
    have no : ¬ (1 ≤ xs.length ∧ xs.length ≤ 1000) → ansOk (.tup xs) = false := fun h => by rw [ea, decide_eq_false h]; rfl
    simp only [d_need_answers, dVar, dC, dOp, dUn, dNil, dCons, dTup, dLst, dCB, dTest, dAnd, dOr, dNot, dAndV, dOrV, dNotV, dIfE, dChain, sNext, sSeq, sBreak, sCont, sDrop, sRet, sRetN, sIf, gdName, gdNil, gdCons, gdTup, gdSub, sAsg, dCall, xOf, sFor, dSeq, dRng1, dRng2, dI, dI0, dB0, dAdd, dIsN, dNotN, isNon, dIx, dSetL, dNeg, one, two, dLen1, dListOf1, dTupOf1, dAbs1, dIntOf1, dII, marg, dAppend1, dExtend1, dIsi, isA, dSl, dPart, dNoPart, dCut, dLc, dYes, sRaise, sTry, exBy, sPar2, sPar3, dIsBl, dNotBl, dBM, dBM0, dEq, dNe, dIn, dSgn, dIsiT2, isAny, dLenSet, dLstL, dOfE, dIxL, dCon, fLen, fTup, fSum, fMax, fMin, fAll, fAny, dEqLL, dNeLL, dLenSetL, dRefL, sTryN, exByN, goneD, withD, dXf, sRaiseF, dLc2, dEnum, dListRg1, dListRg2, dTupRg1, dTupRg2, dStrOf1, dRep, dstart, fnE_nx, fnE_rt, fnE_ex, Nat.zero_le, Nat.reduceLeDiff, decide_true, decide_false, true_or, or_true, false_or, or_false, decide_eq_true_eq, exists_eq_left', exists_eq_left, exists_eq_right, exists_eq_right', Option.some.injEq, List.cons.injEq, D.int.injEq, D.bl.injEq, D.str.injEq, D.tup.injEq, D.lro.injEq, D.ref.injEq, DO.lst.injEq, and_true, true_and, and_false, false_and, exists_false, exists_const, List.getElem?_cons_zero, List.getElem?_cons_succ, List.map_cons, List.map_nil, List.length_cons, List.length_nil, List.replicate_zero, List.replicate_succ, List.append_nil, List.cons_append, List.nil_append, List.set_cons_zero, List.set_cons_succ, Nat.reduceAdd, Nat.reduceSub, Nat.zero_add, reduceIte, Bool.false_eq_true, reduceCtorEq, if_true, if_false, Bool.not_true, Bool.not_false, exists_and_left, Bool.true_xor, Bool.false_xor, dDGet, dDIn, dDNewK, dDNewT, sDPutD, dKyE, dKyT, keyD]
    by_cases h1 : (1 : Int) ≤ xs.length
    · rw [if_pos h1]
      by_cases h2 : (xs.length : Int) ≤ 1000
      · rw [decide_eq_true h2]
        simp only [dVar, dC, dOp, dUn, dNil, dCons, dTup, dLst, dCB, dTest, dAnd, dOr, dNot, dAndV, dOrV, dNotV, dIfE, dChain, sNext, sSeq, sBreak, sCont, sDrop, sRet, sRetN, sIf, gdName, gdNil, gdCons, gdTup, gdSub, sAsg, dCall, xOf, sFor, dSeq, dRng1, dRng2, dI, dI0, dB0, dAdd, dIsN, dNotN, isNon, dIx, dSetL, dNeg, one, two, dLen1, dListOf1, dTupOf1, dAbs1, dIntOf1, dII, marg, dAppend1, dExtend1, dIsi, isA, dSl, dPart, dNoPart, dCut, dLc, dYes, sRaise, sTry, exBy, sPar2, sPar3, dIsBl, dNotBl, dBM, dBM0, dEq, dNe, dIn, dSgn, dIsiT2, isAny, dLenSet, dLstL, dOfE, dIxL, dCon, fLen, fTup, fSum, fMax, fMin, fAll, fAny, dEqLL, dNeLL, dLenSetL, dRefL, sTryN, exByN, goneD, withD, dXf, sRaiseF, dLc2, dEnum, dListRg1, dListRg2, dTupRg1, dTupRg2, dStrOf1, dRep, dstart, fnE_nx, fnE_rt, fnE_ex, Nat.zero_le, Nat.reduceLeDiff, decide_true, decide_false, true_or, or_true, false_or, or_false, decide_eq_true_eq, exists_eq_left', exists_eq_left, exists_eq_right, exists_eq_right', Option.some.injEq, List.cons.injEq, D.int.injEq, D.bl.injEq, D.str.injEq, D.tup.injEq, D.lro.injEq, D.ref.injEq, DO.lst.injEq, and_true, true_and, and_false, false_and, exists_false, exists_const, List.getElem?_cons_zero, List.getElem?_cons_succ, List.map_cons, List.map_nil, List.length_cons, List.length_nil, List.replicate_zero, List.replicate_succ, List.append_nil, List.cons_append, List.nil_append, List.set_cons_zero, List.set_cons_succ, Nat.reduceAdd, Nat.reduceSub, Nat.zero_add, reduceIte, Bool.false_eq_true, reduceCtorEq, if_true, if_false, Bool.not_true, Bool.not_false, exists_and_left, Bool.true_xor, Bool.false_xor, dDGet, dDIn, dDNewK, dDNewT, sDPutD, dKyE, dKyT, keyD]
        simp only [d_need_answers_t1, dVar, dC, dOp, dUn, dNil, dCons, dTup, dLst, dCB, dTest, dAnd, dOr, dNot, dAndV, dOrV, dNotV, dIfE, dChain, sNext, sSeq, sBreak, sCont, sDrop, sRet, sRetN, sIf, gdName, gdNil, gdCons, gdTup, gdSub, sAsg, dCall, xOf, sFor, dSeq, dRng1, dRng2, dI, dI0, dB0, dAdd, dIsN, dNotN, isNon, dIx, dSetL, dNeg, one, two, dLen1, dListOf1, dTupOf1, dAbs1, dIntOf1, dII, marg, dAppend1, dExtend1, dIsi, isA, dSl, dPart, dNoPart, dCut, dLc, dYes, sRaise, sTry, exBy, sPar2, sPar3, dIsBl, dNotBl, dBM, dBM0, dEq, dNe, dIn, dSgn, dIsiT2, isAny, dLenSet, dLstL, dOfE, dIxL, dCon, fLen, fTup, fSum, fMax, fMin, fAll, fAny, dEqLL, dNeLL, dLenSetL, dRefL, sTryN, exByN, goneD, withD, dXf, sRaiseF, dLc2, dEnum, dListRg1, dListRg2, dTupRg1, dTupRg2, dStrOf1, dRep, dstart, fnE_nx, fnE_rt, fnE_ex, Nat.zero_le, Nat.reduceLeDiff, decide_true, decide_false, true_or, or_true, false_or, or_false, decide_eq_true_eq, exists_eq_left', exists_eq_left, exists_eq_right, exists_eq_right', Option.some.injEq, List.cons.injEq, D.int.injEq, D.bl.injEq, D.str.injEq, D.tup.injEq, D.lro.injEq, D.ref.injEq, DO.lst.injEq, and_true, true_and, and_false, false_and, exists_false, exists_const, List.getElem?_cons_zero, List.getElem?_cons_succ, List.map_cons, List.map_nil, List.length_cons, List.length_nil, List.replicate_zero, List.replicate_succ, List.append_nil, List.cons_append, List.nil_append, List.set_cons_zero, List.set_cons_succ, Nat.reduceAdd, Nat.reduceSub, Nat.zero_add, reduceIte, Bool.false_eq_true, reduceCtorEq, if_true, if_false, Bool.not_true, Bool.not_false, exists_and_left, Bool.true_xor, Bool.false_xor, dDGet, dDIn, dDNewK, dDNewT, sDPutD, dKyE, dKyT, keyD, dwipe]
        rw [ea, decide_eq_true (by omega), Bool.true_and] at q1 q2
        refine ⟨_, _, rfl, ?_⟩
        refine lcD_map (fun d => .bl (isInt d && decide (0 ≤ intV d))) L trivial _ (fun d hd Kt hK Kf => ?_) [] (by simp; omega) fun p hp => keep_new ?_ hp
        · simp only [dVar, dC, dOp, dUn, dNil, dCons, dTup, dLst, dCB, dTest, dAnd, dOr, dNot, dAndV, dOrV, dNotV, dIfE, dChain, sNext, sSeq, sBreak, sCont, sDrop, sRet, sRetN, sIf, gdName, gdNil, gdCons, gdTup, gdSub, sAsg, dCall, xOf, sFor, dSeq, dRng1, dRng2, dI, dI0, dB0, dAdd, dIsN, dNotN, isNon, dIx, dSetL, dNeg, one, two, dLen1, dListOf1, dTupOf1, dAbs1, dIntOf1, dII, marg, dAppend1, dExtend1, dIsi, isA, dSl, dPart, dNoPart, dCut, dLc, dYes, sRaise, sTry, exBy, sPar2, sPar3, dIsBl, dNotBl, dBM, dBM0, dEq, dNe, dIn, dSgn, dIsiT2, isAny, dLenSet, dLstL, dOfE, dIxL, dCon, fLen, fTup, fSum, fMax, fMin, fAll, fAny, dEqLL, dNeLL, dLenSetL, dRefL, sTryN, exByN, goneD, withD, dXf, sRaiseF, dLc2, dEnum, dListRg1, dListRg2, dTupRg1, dTupRg2, dStrOf1, dRep, dstart, fnE_nx, fnE_rt, fnE_ex, Nat.zero_le, Nat.reduceLeDiff, decide_true, decide_false, true_or, or_true, false_or, or_false, decide_eq_true_eq, exists_eq_left', exists_eq_left, exists_eq_right, exists_eq_right', Option.some.injEq, List.cons.injEq, D.int.injEq, D.bl.injEq, D.str.injEq, D.tup.injEq, D.lro.injEq, D.ref.injEq, DO.lst.injEq, and_true, true_and, and_false, false_and, exists_false, exists_const, List.getElem?_cons_zero, List.getElem?_cons_succ, List.map_cons, List.map_nil, List.length_cons, List.length_nil, List.replicate_zero, List.replicate_succ, List.append_nil, List.cons_append, List.nil_append, List.set_cons_zero, List.set_cons_succ, Nat.reduceAdd, Nat.reduceSub, Nat.zero_add, reduceIte, Bool.false_eq_true, reduceCtorEq, if_true, if_false, Bool.not_true, Bool.not_false, exists_and_left, Bool.true_xor, Bool.false_xor, dDGet, dDIn, dDNewK, dDNewT, sDPutD, dKyE, dKyT, keyD]
          refine ⟨d, rfl, (ht.mem hd).known, ?_⟩
          cases hi : isInt d with
          | false =>
            rw [hi] at hK
            simp only [dVar, dC, dOp, dUn, dNil, dCons, dTup, dLst, dCB, dTest, dAnd, dOr, dNot, dAndV, dOrV, dNotV, dIfE, dChain, sNext, sSeq, sBreak, sCont, sDrop, sRet, sRetN, sIf, gdName, gdNil, gdCons, gdTup, gdSub, sAsg, dCall, xOf, sFor, dSeq, dRng1, dRng2, dI, dI0, dB0, dAdd, dIsN, dNotN, isNon, dIx, dSetL, dNeg, one, two, dLen1, dListOf1, dTupOf1, dAbs1, dIntOf1, dII, marg, dAppend1, dExtend1, dIsi, isA, dSl, dPart, dNoPart, dCut, dLc, dYes, sRaise, sTry, exBy, sPar2, sPar3, dIsBl, dNotBl, dBM, dBM0, dEq, dNe, dIn, dSgn, dIsiT2, isAny, dLenSet, dLstL, dOfE, dIxL, dCon, fLen, fTup, fSum, fMax, fMin, fAll, fAny, dEqLL, dNeLL, dLenSetL, dRefL, sTryN, exByN, goneD, withD, dXf, sRaiseF, dLc2, dEnum, dListRg1, dListRg2, dTupRg1, dTupRg2, dStrOf1, dRep, dstart, fnE_nx, fnE_rt, fnE_ex, Nat.zero_le, Nat.reduceLeDiff, decide_true, decide_false, true_or, or_true, false_or, or_false, decide_eq_true_eq, exists_eq_left', exists_eq_left, exists_eq_right, exists_eq_right', Option.some.injEq, List.cons.injEq, D.int.injEq, D.bl.injEq, D.str.injEq, D.tup.injEq, D.lro.injEq, D.ref.injEq, DO.lst.injEq, and_true, true_and, and_false, false_and, exists_false, exists_const, List.getElem?_cons_zero, List.getElem?_cons_succ, List.map_cons, List.map_nil, List.length_cons, List.length_nil, List.replicate_zero, List.replicate_succ, List.append_nil, List.cons_append, List.nil_append, List.set_cons_zero, List.set_cons_succ, Nat.reduceAdd, Nat.reduceSub, Nat.zero_add, reduceIte, Bool.false_eq_true, reduceCtorEq, if_true, if_false, Bool.not_true, Bool.not_false, exists_and_left, Bool.true_xor, Bool.false_xor, dDGet, dDIn, dDNewK, dDNewT, sDPutD, dKyE, dKyT, keyD]
            exact hK
          | true =>
            rw [hi] at hK
            cases d with
            | int x =>
              simp only [dVar, dC, dOp, dUn, dNil, dCons, dTup, dLst, dCB, dTest, dAnd, dOr, dNot, dAndV, dOrV, dNotV, dIfE, dChain, sNext, sSeq, sBreak, sCont, sDrop, sRet, sRetN, sIf, gdName, gdNil, gdCons, gdTup, gdSub, sAsg, dCall, xOf, sFor, dSeq, dRng1, dRng2, dI, dI0, dB0, dAdd, dIsN, dNotN, isNon, dIx, dSetL, dNeg, one, two, dLen1, dListOf1, dTupOf1, dAbs1, dIntOf1, dII, marg, dAppend1, dExtend1, dIsi, isA, dSl, dPart, dNoPart, dCut, dLc, dYes, sRaise, sTry, exBy, sPar2, sPar3, dIsBl, dNotBl, dBM, dBM0, dEq, dNe, dIn, dSgn, dIsiT2, isAny, dLenSet, dLstL, dOfE, dIxL, dCon, fLen, fTup, fSum, fMax, fMin, fAll, fAny, dEqLL, dNeLL, dLenSetL, dRefL, sTryN, exByN, goneD, withD, dXf, sRaiseF, dLc2, dEnum, dListRg1, dListRg2, dTupRg1, dTupRg2, dStrOf1, dRep, dstart, fnE_nx, fnE_rt, fnE_ex, Nat.zero_le, Nat.reduceLeDiff, decide_true, decide_false, true_or, or_true, false_or, or_false, decide_eq_true_eq, exists_eq_left', exists_eq_left, exists_eq_right, exists_eq_right', Option.some.injEq, List.cons.injEq, D.int.injEq, D.bl.injEq, D.str.injEq, D.tup.injEq, D.lro.injEq, D.ref.injEq, DO.lst.injEq, and_true, true_and, and_false, false_and, exists_false, exists_const, List.getElem?_cons_zero, List.getElem?_cons_succ, List.map_cons, List.map_nil, List.length_cons, List.length_nil, List.replicate_zero, List.replicate_succ, List.append_nil, List.cons_append, List.nil_append, List.set_cons_zero, List.set_cons_succ, Nat.reduceAdd, Nat.reduceSub, Nat.zero_add, reduceIte, Bool.false_eq_true, reduceCtorEq, if_true, if_false, Bool.not_true, Bool.not_false, exists_and_left, Bool.true_xor, Bool.false_xor, dDGet, dDIn, dDNewK, dDNewT, sDPutD, dKyE, dKyT, keyD]
              exact hK
            | _ => cases hi
        · refine ⟨xs.map fun d => isInt d && decide (0 ≤ intV d), ?_, ?_⟩
          · rw [List.nil_append, List.map_map]; rfl
          · rw [List.all_map]
            have e : (xs.all (id ∘ fun d => isInt d && decide (0 ≤ intV d))) = xs.all fun x => isInt x && decide (0 ≤ intV x) := rfl
            rw [e]
            cases h : (xs.all fun x => isInt x && decide (0 ≤ intV x)) with
            | true => simp only [dVar, dC, dOp, dUn, dNil, dCons, dTup, dLst, dCB, dTest, dAnd, dOr, dNot, dAndV, dOrV, dNotV, dIfE, dChain, sNext, sSeq, sBreak, sCont, sDrop, sRet, sRetN, sIf, gdName, gdNil, gdCons, gdTup, gdSub, sAsg, dCall, xOf, sFor, dSeq, dRng1, dRng2, dI, dI0, dB0, dAdd, dIsN, dNotN, isNon, dIx, dSetL, dNeg, one, two, dLen1, dListOf1, dTupOf1, dAbs1, dIntOf1, dII, marg, dAppend1, dExtend1, dIsi, isA, dSl, dPart, dNoPart, dCut, dLc, dYes, sRaise, sTry, exBy, sPar2, sPar3, dIsBl, dNotBl, dBM, dBM0, dEq, dNe, dIn, dSgn, dIsiT2, isAny, dLenSet, dLstL, dOfE, dIxL, dCon, fLen, fTup, fSum, fMax, fMin, fAll, fAny, dEqLL, dNeLL, dLenSetL, dRefL, sTryN, exByN, goneD, withD, dXf, sRaiseF, dLc2, dEnum, dListRg1, dListRg2, dTupRg1, dTupRg2, dStrOf1, dRep, dstart, fnE_nx, fnE_rt, fnE_ex, Nat.zero_le, Nat.reduceLeDiff, decide_true, decide_false, true_or, or_true, false_or, or_false, decide_eq_true_eq, exists_eq_left', exists_eq_left, exists_eq_right, exists_eq_right', Option.some.injEq, List.cons.injEq, D.int.injEq, D.bl.injEq, D.str.injEq, D.tup.injEq, D.lro.injEq, D.ref.injEq, DO.lst.injEq, and_true, true_and, and_false, false_and, exists_false, exists_const, List.getElem?_cons_zero, List.getElem?_cons_succ, List.map_cons, List.map_nil, List.length_cons, List.length_nil, List.replicate_zero, List.replicate_succ, List.append_nil, List.cons_append, List.nil_append, List.set_cons_zero, List.set_cons_succ, Nat.reduceAdd, Nat.reduceSub, Nat.zero_add, reduceIte, Bool.false_eq_true, reduceCtorEq, if_true, if_false, Bool.not_true, Bool.not_false, exists_and_left, Bool.true_xor, Bool.false_xor, dDGet, dDIn, dDNewK, dDNewT, sDPutD, dKyE, dKyT, keyD]; exact endOf (q1 h)
            | false => simp only [dVar, dC, dOp, dUn, dNil, dCons, dTup, dLst, dCB, dTest, dAnd, dOr, dNot, dAndV, dOrV, dNotV, dIfE, dChain, sNext, sSeq, sBreak, sCont, sDrop, sRet, sRetN, sIf, gdName, gdNil, gdCons, gdTup, gdSub, sAsg, dCall, xOf, sFor, dSeq, dRng1, dRng2, dI, dI0, dB0, dAdd, dIsN, dNotN, isNon, dIx, dSetL, dNeg, one, two, dLen1, dListOf1, dTupOf1, dAbs1, dIntOf1, dII, marg, dAppend1, dExtend1, dIsi, isA, dSl, dPart, dNoPart, dCut, dLc, dYes, sRaise, sTry, exBy, sPar2, sPar3, dIsBl, dNotBl, dBM, dBM0, dEq, dNe, dIn, dSgn, dIsiT2, isAny, dLenSet, dLstL, dOfE, dIxL, dCon, fLen, fTup, fSum, fMax, fMin, fAll, fAny, dEqLL, dNeLL, dLenSetL, dRefL, sTryN, exByN, goneD, withD, dXf, sRaiseF, dLc2, dEnum, dListRg1, dListRg2, dTupRg1, dTupRg2, dStrOf1, dRep, dstart, fnE_nx, fnE_rt, fnE_ex, Nat.zero_le, Nat.reduceLeDiff, decide_true, decide_false, true_or, or_true, false_or, or_false, decide_eq_true_eq, exists_eq_left', exists_eq_left, exists_eq_right, exists_eq_right', Option.some.injEq, List.cons.injEq, D.int.injEq, D.bl.injEq, D.str.injEq, D.tup.injEq, D.lro.injEq, D.ref.injEq, DO.lst.injEq, and_true, true_and, and_false, false_and, exists_false, exists_const, List.getElem?_cons_zero, List.getElem?_cons_succ, List.map_cons, List.map_nil, List.length_cons, List.length_nil, List.replicate_zero, List.replicate_succ, List.append_nil, List.cons_append, List.nil_append, List.set_cons_zero, List.set_cons_succ, Nat.reduceAdd, Nat.reduceSub, Nat.zero_add, reduceIte, Bool.false_eq_true, reduceCtorEq, if_true, if_false, Bool.not_true, Bool.not_false, exists_and_left, Bool.true_xor, Bool.false_xor, dDGet, dDIn, dDNewK, dDNewT, sDPutD, dKyE, dKyT, keyD]; exact endX (q2 h)
      · rw [decide_eq_false h2]
        simp only [dVar, dC, dOp, dUn, dNil, dCons, dTup, dLst, dCB, dTest, dAnd, dOr, dNot, dAndV, dOrV, dNotV, dIfE, dChain, sNext, sSeq, sBreak, sCont, sDrop, sRet, sRetN, sIf, gdName, gdNil, gdCons, gdTup, gdSub, sAsg, dCall, xOf, sFor, dSeq, dRng1, dRng2, dI, dI0, dB0, dAdd, dIsN, dNotN, isNon, dIx, dSetL, dNeg, one, two, dLen1, dListOf1, dTupOf1, dAbs1, dIntOf1, dII, marg, dAppend1, dExtend1, dIsi, isA, dSl, dPart, dNoPart, dCut, dLc, dYes, sRaise, sTry, exBy, sPar2, sPar3, dIsBl, dNotBl, dBM, dBM0, dEq, dNe, dIn, dSgn, dIsiT2, isAny, dLenSet, dLstL, dOfE, dIxL, dCon, fLen, fTup, fSum, fMax, fMin, fAll, fAny, dEqLL, dNeLL, dLenSetL, dRefL, sTryN, exByN, goneD, withD, dXf, sRaiseF, dLc2, dEnum, dListRg1, dListRg2, dTupRg1, dTupRg2, dStrOf1, dRep, dstart, fnE_nx, fnE_rt, fnE_ex, Nat.zero_le, Nat.reduceLeDiff, decide_true, decide_false, true_or, or_true, false_or, or_false, decide_eq_true_eq, exists_eq_left', exists_eq_left, exists_eq_right, exists_eq_right', Option.some.injEq, List.cons.injEq, D.int.injEq, D.bl.injEq, D.str.injEq, D.tup.injEq, D.lro.injEq, D.ref.injEq, DO.lst.injEq, and_true, true_and, and_false, false_and, exists_false, exists_const, List.getElem?_cons_zero, List.getElem?_cons_succ, List.map_cons, List.map_nil, List.length_cons, List.length_nil, List.replicate_zero, List.replicate_succ, List.append_nil, List.cons_append, List.nil_append, List.set_cons_zero, List.set_cons_succ, Nat.reduceAdd, Nat.reduceSub, Nat.zero_add, reduceIte, Bool.false_eq_true, reduceCtorEq, if_true, if_false, Bool.not_true, Bool.not_false, exists_and_left, Bool.true_xor, Bool.false_xor, dDGet, dDIn, dDNewK, dDNewT, sDPutD, dKyE, dKyT, keyD]
        exact endX (q2 (no (by omega)))
    · rw [if_neg h1]
      exact endX (q2 (no (by omega)))
  · simp only [d_need_answers, dVar, dC, dOp, dUn, dNil, dCons, dTup, dLst, dCB, dTest, dAnd, dOr, dNot, dAndV, dOrV, dNotV, dIfE, dChain, sNext, sSeq, sBreak, sCont, sDrop, sRet, sRetN, sIf, gdName, gdNil, gdCons, gdTup, gdSub, sAsg, dCall, xOf, sFor, dSeq, dRng1, dRng2, dI, dI0, dB0, dAdd, dIsN, dNotN, isNon, dIx, dSetL, dNeg, one, two, dLen1, dListOf1, dTupOf1, dAbs1, dIntOf1, dII, marg, dAppend1, dExtend1, dIsi, isA, dSl, dPart, dNoPart, dCut, dLc, dYes, sRaise, sTry, exBy, sPar2, sPar3, dIsBl, dNotBl, dBM, dBM0, dEq, dNe, dIn, dSgn, dIsiT2, isAny, dLenSet, dLstL, dOfE, dIxL, dCon, fLen, fTup, fSum, fMax, fMin, fAll, fAny, dEqLL, dNeLL, dLenSetL, dRefL, sTryN, exByN, goneD, withD, dXf, sRaiseF, dLc2, dEnum, dListRg1, dListRg2, dTupRg1, dTupRg2, dStrOf1, dRep, dstart, fnE_nx, fnE_rt, fnE_ex, Nat.zero_le, Nat.reduceLeDiff, decide_true, decide_false, true_or, or_true, false_or, or_false, decide_eq_true_eq, exists_eq_left', exists_eq_left, exists_eq_right, exists_eq_right', Option.some.injEq, List.cons.injEq, D.int.injEq, D.bl.injEq, D.str.injEq, D.tup.injEq, D.lro.injEq, D.ref.injEq, DO.lst.injEq, and_true, true_and, and_false, false_and, exists_false, exists_const, List.getElem?_cons_zero, List.getElem?_cons_succ, List.map_cons, List.map_nil, List.length_cons, List.length_nil, List.replicate_zero, List.replicate_succ, List.append_nil, List.cons_append, List.nil_append, List.set_cons_zero, List.set_cons_succ, Nat.reduceAdd, Nat.reduceSub, Nat.zero_add, reduceIte, Bool.false_eq_true, reduceCtorEq, if_true, if_false, Bool.not_true, Bool.not_false, exists_and_left, Bool.true_xor, Bool.false_xor, dDGet, dDIn, dDNewK, dDNewT, sDPutD, dKyE, dKyT, keyD]
    refine ⟨false, isA_no hkn hno, ?_⟩
    simp only [dVar, dC, dOp, dUn, dNil, dCons, dTup, dLst, dCB, dTest, dAnd, dOr, dNot, dAndV, dOrV, dNotV, dIfE, dChain, sNext, sSeq, sBreak, sCont, sDrop, sRet, sRetN, sIf, gdName, gdNil, gdCons, gdTup, gdSub, sAsg, dCall, xOf, sFor, dSeq, dRng1, dRng2, dI, dI0, dB0, dAdd, dIsN, dNotN, isNon, dIx, dSetL, dNeg, one, two, dLen1, dListOf1, dTupOf1, dAbs1, dIntOf1, dII, marg, dAppend1, dExtend1, dIsi, isA, dSl, dPart, dNoPart, dCut, dLc, dYes, sRaise, sTry, exBy, sPar2, sPar3, dIsBl, dNotBl, dBM, dBM0, dEq, dNe, dIn, dSgn, dIsiT2, isAny, dLenSet, dLstL, dOfE, dIxL, dCon, fLen, fTup, fSum, fMax, fMin, fAll, fAny, dEqLL, dNeLL, dLenSetL, dRefL, sTryN, exByN, goneD, withD, dXf, sRaiseF, dLc2, dEnum, dListRg1, dListRg2, dTupRg1, dTupRg2, dStrOf1, dRep, dstart, fnE_nx, fnE_rt, fnE_ex, Nat.zero_le, Nat.reduceLeDiff, decide_true, decide_false, true_or, or_true, false_or, or_false, decide_eq_true_eq, exists_eq_left', exists_eq_left, exists_eq_right, exists_eq_right', Option.some.injEq, List.cons.injEq, D.int.injEq, D.bl.injEq, D.str.injEq, D.tup.injEq, D.lro.injEq, D.ref.injEq, DO.lst.injEq, and_true, true_and, and_false, false_and, exists_false, exists_const, List.getElem?_cons_zero, List.getElem?_cons_succ, List.map_cons, List.map_nil, List.length_cons, List.length_nil, List.replicate_zero, List.replicate_succ, List.append_nil, List.cons_append, List.nil_append, List.set_cons_zero, List.set_cons_succ, Nat.reduceAdd, Nat.reduceSub, Nat.zero_add, reduceIte, Bool.false_eq_true, reduceCtorEq, if_true, if_false, Bool.not_true, Bool.not_false, exists_and_left, Bool.true_xor, Bool.false_xor, dDGet, dDIn, dDNewK, dDNewT, sDPutD, dKyE, dKyT, keyD]
    refine endX (q2 ?_)
    cases d with
    | tup xs => exact absurd rfl (hno xs)
    | _ => rfl
end D2

set_option Elab.async false
set_option linter.all false
set_option maxRecDepth 100000
set_option maxHeartbeats 1000000
namespace D2
open PySem PySem.Spec PyProof.Rows L2
/-! ### the play of a table -/
abbrev PV := Int × Int
def metK (x : PV) : List Key := [.inl x.1, .inl x.2]
def metD : Nat → List PV → List (List Key × D)
  | _, [] => []
  | i, x :: xs => (metK x, .int i) :: metD (i + 1) xs
theorem metK_inj {x y : PV} : metK x = metK y ↔ x = y := by
  unfold metK
  constructor
  · intro h
    simp only [List.cons.injEq, Sum.inl.injEq, and_true] at h
    exact Prod.ext h.1 h.2
  · rintro rfl; rfl
theorem metD_len : ∀ (i : Nat) (xs : List PV), (metD i xs).length = xs.length
  | _, [] => rfl
  | i, x :: xs => by simp only [metD, List.length_cons, metD_len (i + 1) xs]
theorem metD_val : ∀ (xs : List PV) (i : Nat) (x : PV), valD (metD i xs) (metK x) = if x ∈ xs then some (.int ((i + xs.idxOf x : Nat) : Int)) else none
  | [], i, x => rfl
  | y :: xs, i, x => by
    by_cases h : y = x
    · subst h
      have e1 : valD (metD i (y :: xs)) (metK y) = some (.int i) := by simp [valD, metD, List.find?_cons]
      rw [e1, if_pos List.mem_cons_self, List.idxOf_cons_self, Nat.add_zero]
    · have h2 : ¬ metK y = metK x := fun e => h (metK_inj.mp e)
      have e1 : valD (metD i (y :: xs)) (metK x) = valD (metD (i + 1) xs) (metK x) := by simp [valD, metD, List.find?_cons, h2]
      rw [e1, metD_val xs (i + 1) x]
      by_cases hx : x ∈ xs
      · rw [if_pos hx, if_pos (List.mem_cons_of_mem _ hx), List.idxOf_cons, show (y == x) = false from beq_eq_false_iff_ne.mpr h]
        simp only [cond_false]
        congr 3
        omega
      · rw [if_neg hx, if_neg (by
          intro hm
          rcases List.mem_cons.mp hm with e | e
          · exact h e.symm
          · exact hx e)]
theorem metD_snoc : ∀ (xs : List PV) (i : Nat) (x : PV), metD i xs ++ [(metK x, .int ((i + xs.length : Nat) : Int))] = metD i (xs ++ [x])
  | [], i, x => rfl
  | y :: xs, i, x => by
    show (metK y, D.int i) :: (metD (i + 1) xs ++ _) = (metK y, .int i) :: metD (i + 1) (xs ++ [x])
    rw [← metD_snoc xs (i + 1) x, List.length_cons, show i + (xs.length + 1) = i + 1 + xs.length by omega]
theorem any_val {κ : Type} [DecidableEq κ] : ∀ (kvs : List (κ × D)) (k : κ), valD kvs k = none → (kvs.any fun kv => decide (kv.1 = k)) = false
  | [], _, _ => rfl
  | p :: kvs, k, h => by
    by_cases e : p.1 = k
    · simp [valD, List.find?_cons, e] at h
    · have : valD (p :: kvs) k = valD kvs k := by simp [valD, List.find?_cons, e]
      rw [this] at h
      rw [List.any_cons, any_val kvs k h, decide_eq_false e]; rfl
theorem metD_put {xs : List PV} {x : PV} (h : x ∉ xs) : putD (metD 0 xs) (metK x) (.int (xs.length : Nat)) = metD 0 (xs ++ [x]) := by
  have hv : valD (metD 0 xs) (metK x) = none := by rw [metD_val, if_neg h]
  unfold putD
  rw [any_val _ _ hv, if_neg (by decide), ← metD_snoc xs 0 x, Nat.zero_add]
def wayD (xs : List PV) : List D := xs.map fun x => .int x.1
def nextW (rows : List D) (as : List Int) (v k : Int) : Int := (rowNx rows v).getD (as.getD k.toNat 0 % (rowNx rows v).length).toNat 0
def playF (rows tb : List D) (pl : Int) (as : List Int) : Nat → List PV → Int → Int → D
  | 0, _, _, _ => .non
  | f + 1, met, v, k =>
    if (v, k) ∈ met then .tup [.tup (wayD (met.take (met.idxOf (v, k)))), .tup (wayD (met.drop (met.idxOf (v, k))))]
    else if rowOw rows v = pl then (match tb.getD v.toNat .non with
      | .int x => playF rows tb pl as f (met ++ [(v, k)]) x k
      | _ => .tup [.tup (wayD (met ++ [(v, k)])), .tup []])
    else playF rows tb pl as f (met ++ [(v, k)]) (nextW rows as v k) ((k + 1) % as.length)
def fuelP (rows : List D) (as : List Int) : Nat := rows.length * as.length + 1
def playR (rows tb : List D) (pl : Int) (as : List Int) (start : Int) : D := playF rows tb pl as (fuelP rows as) [] start 0
theorem pigeon2 {α : Type} [DecidableEq α] : ∀ (xs ys : List α), xs.Nodup → (∀ x, x ∈ xs → x ∈ ys) → xs.length ≤ ys.length
  | [], ys, _, _ => Nat.zero_le _
  | x :: xs, ys, hn, h => by
    obtain ⟨h1, h2⟩ := List.nodup_cons.mp hn
    have hx := h x List.mem_cons_self
    have := pigeon2 xs (ys.erase x) h2 fun y hy => by
      have hne : y ≠ x := by rintro rfl; exact h1 hy
      exact (List.mem_erase_of_ne hne).mpr (h y (List.mem_cons_of_mem _ hy))
    rw [List.length_erase_of_mem hx] at this
    have := List.length_pos_of_mem hx
    simp
    omega
def InP (r a : Nat) (x : PV) : Prop := 0 ≤ x.1 ∧ x.1 < r ∧ 0 ≤ x.2 ∧ x.2 < a
theorem met_len {r a : Nat} {xs : List PV} (hn : xs.Nodup) (h : ∀ x, x ∈ xs → InP r a x) : xs.length ≤ r * a := by
  have := pigeon2 xs ((List.range r).flatMap fun (v : Nat) => (List.range a).map fun (k : Nat) => (((v : Int), (k : Int)) : PV)) hn fun x hx => by
    obtain ⟨a1, a2, a3, a4⟩ := h x hx
    refine List.mem_flatMap.mpr ⟨x.1.toNat, List.mem_range.mpr (by omega), List.mem_map.mpr ⟨x.2.toNat, List.mem_range.mpr (by omega), ?_⟩⟩
    exact Prod.ext (by show ((x.1.toNat : Nat) : Int) = x.1; omega) (by show ((x.2.toNat : Nat) : Int) = x.2; omega)
  rw [List.length_flatMap] at this
  simp only [List.length_map, List.length_range, List.map_const', List.sum_replicate_nat] at this
  exact this
theorem le_own2 {L L' : DH} {p : Addr} {o : DO} (h : Le L L') (hp : L p = none) : Le L (upd L' p o) := fun c v e => by
  rw [updD_ne (fresh_ne e hp)]; exact h c v e
theorem keys_pv (v k : Int) : optAll keyD [.int v, .int k] = some (metK (v, k)) := rfl
structure PlayAt (rows tb : List D) (pl : Int) (as : List Int) : Prop where
  g : isGame (.tup rows) = true
  len : rows.length ≤ 1000
  t : TabT rows pl tb
  a1 : 1 ≤ as.length
  a2 : as.length ≤ 1000
  nn : ∀ x, x ∈ as → 0 ≤ x
theorem getK_met {L : DH} {p : Addr} {met : List PV} (h : L p = some (.dtp (metD 0 met))) (v k : Int) : getK L p (.inr (metK (v, k))) = some (if (v, k) ∈ met then some (.int ((met.idxOf (v, k) : Nat) : Int)) else none) := by
  unfold getK
  rw [h]
  show some (valD (metD 0 met) (metK (v, k))) = _
  rw [metD_val, Nat.zero_add]
theorem putKD_met {L : DH} {p : Addr} {kvs : List (List Key × D)} {ks : List Key} {d : D} {P : DH → Prop} (h : L p = some (.dtp kvs)) (hl : kvs.length < 16777216) (q : P (upd L p (.dtp (putD kvs ks d)))) : putKD L p (.inr ks) d P := by
  unfold putKD
  rw [h]
  exact ⟨hl, q⟩
def PlayI (rows tb : List D) (pl : Int) (as : List Int) (start : Int) (p w : Addr) (L : DH) (m : Nat) (s : DSt) (L' : DH) : Prop := ∃ (met : List PV) (v k : Int) (o10 o11 o12 : Option D), met.length + m = fuelP rows as ∧ met.Nodup ∧ (∀ x, x ∈ met → InP rows.length as.length x) ∧ InP rows.length as.length (v, k) ∧ Le L L' ∧ L' p = some (.dtp (metD 0 met)) ∧ L' w = some (.lst (wayD met)) ∧
    playR rows tb pl as start = playF rows tb pl as m met v k ∧ s = [some (.tup rows), some (.int pl), some (.tup tb), some (.int start), some (.tup (as.map .int)), some (.ref p), some (.ref w), some (.int v), some (.int k), none, o10, o11, o12]
def sp_law_play : SpD := fun ds L Q _ => ∃ (rows tb : List D) (pl start : Int) (as : List Int), ds = [.tup rows, .int pl, .tup tb, .int start, .tup (as.map .int)] ∧ PlayAt rows tb pl as ∧ 0 ≤ start ∧ start < rows.length ∧ Q (playR rows tb pl as start) L
theorem len_law_play : ∀ as L Q E, sp_law_play as L Q E → as.length = 5 := by rintro _ L Q E ⟨r, t, p, s, a, rfl, _⟩; rfl
def d__law_play_t4b3a1 : DS :=
  (sAsg (dOp dIx (dVar 2) (dVar 7)) (gdName 7))
def d__law_play_t4b3e1 : DS :=
  (sAsg (dOp dMod (dCB dIntOf (dCons (dOp dAdd (dVar 8) (dC (.int 1))) dNil)) (dCB dLen (dCons (dVar 4) dNil))) (gdName 8))
def d__law_play_t4b3 : DS :=
  (sIf (dTest (dOp dEq (dVar 10) (dVar 1))) (sSeq (sIf (dTest (dOp dIsN (dOp dIx (dVar 2) (dVar 7)) (dC .non))) (sRet (dTup (dCons (dCB dTupOf (dCons (dVar 6) dNil)) (dCons (dTup dNil) dNil)))) sNext) d__law_play_t4b3a1) (sSeq (sAsg (dOp dIx (dVar 12) (dOp dMod (dCB dIntOf (dCons (dOp dIx (dVar 4) (dVar 8)) dNil)) (dCB dLen (dCons (dVar 12) dNil)))) (gdName 7)) d__law_play_t4b3e1))
def d__law_play_t4b2 : DS :=
  (sSeq (sAsg (dOp dIx (dVar 0) (dVar 7)) (gdTup 3 (gdCons (gdName 10) (gdCons (gdName 11) (gdCons (gdName 12) gdNil))))) d__law_play_t4b3)
def d__law_play_t4b1 : DS :=
  (sSeq (sDrop (dBM chkL (marg dAppend1) (dVar 6) (dCons (dVar 7) dNil))) d__law_play_t4b2)
def d__law_play_b4 : DS :=
  (sSeq (sDPutD (dCB dLen (dCons (dVar 6) dNil)) (dVar 5) (dKyT (dCons (dVar 7) (dCons (dVar 8) dNil)))) d__law_play_t4b1)
def d__law_play_t6 : DS :=
  (sRet (dTup (dCons (dCB dTupOf (dCons (dSl dCut (dVar 6) dNoPart (dPart (dVar 9))) dNil)) (dCons (dCB dTupOf (dCons (dSl dCut (dVar 6) (dPart (dVar 9)) dNoPart) dNil)) dNil))))
def d__law_play_t5 : DS :=
  (sSeq (sAsg (dDGet (dVar 5) (dKyT (dCons (dVar 7) (dCons (dVar 8) dNil)))) (gdName 9)) d__law_play_t6)
def d__law_play_t4 : DS :=
  (sSeq (sWhile (dTest (dDIn true (dKyT (dCons (dVar 7) (dCons (dVar 8) dNil))) (dVar 5)))
  d__law_play_b4) d__law_play_t5)
def d__law_play_t3 : DS :=
  (sSeq (sAsg (dC (.int 0)) (gdName 8)) d__law_play_t4)
def d__law_play_t2 : DS :=
  (sSeq (sAsg (dVar 3) (gdName 7)) d__law_play_t3)
def d__law_play_t1 : DS :=
  (sSeq (sAsg (dLst dNil) (gdName 6)) d__law_play_t2)
def d__law_play : DS :=
  (sSeq (sAsg dDNewT (gdName 5)) d__law_play_t1)

theorem pure_law_play : ∀ as L Q E, sp_law_play as L Q E → d__law_play (fnEnds Q E) (dstart 13 as) L := by
  rintro as L Q E ⟨rows, tb, pl, start, as, rfl, hP, s0, s1, q⟩
  simp only [d__law_play, dVar, dC, dOp, dUn, dNil, dCons, dTup, dLst, dCB, dTest, dAnd, dOr, dNot, dAndV, dOrV, dNotV, dIfE, dChain, sNext, sSeq, sBreak, sCont, sDrop, sRet, sRetN, sIf, gdName, gdNil, gdCons, gdTup, gdSub, sAsg, dCall, xOf, sFor, dSeq, dRng1, dRng2, dI, dI0, dB0, dAdd, dIsN, dNotN, isNon, dIx, dSetL, dNeg, one, two, dLen1, dListOf1, dTupOf1, dAbs1, dIntOf1, dII, marg, dAppend1, dExtend1, dIsi, isA, dSl, dPart, dNoPart, dCut, dLc, dYes, sRaise, sTry, exBy, sPar2, sPar3, dIsBl, dNotBl, dBM, dBM0, dEq, dNe, dIn, dSgn, dIsiT2, isAny, dLenSet, dLstL, dOfE, dIxL, dCon, fLen, fTup, fSum, fMax, fMin, fAll, fAny, dEqLL, dNeLL, dLenSetL, dRefL, sTryN, exByN, goneD, withD, dXf, sRaiseF, dLc2, dEnum, dListRg1, dListRg2, dTupRg1, dTupRg2, dStrOf1, dRep, dstart, fnE_nx, fnE_rt, fnE_ex, Nat.zero_le, Nat.reduceLeDiff, decide_true, decide_false, true_or, or_true, false_or, or_false, decide_eq_true_eq, exists_eq_left', exists_eq_left, exists_eq_right, exists_eq_right', Option.some.injEq, List.cons.injEq, D.int.injEq, D.bl.injEq, D.str.injEq, D.tup.injEq, D.lro.injEq, D.ref.injEq, DO.lst.injEq, and_true, true_and, and_false, false_and, exists_false, exists_const, List.getElem?_cons_zero, List.getElem?_cons_succ, List.map_cons, List.map_nil, List.length_cons, List.length_nil, List.replicate_zero, List.replicate_succ, List.append_nil, List.cons_append, List.nil_append, List.set_cons_zero, List.set_cons_succ, Nat.reduceAdd, Nat.reduceSub, Nat.zero_add, reduceIte, Bool.false_eq_true, reduceCtorEq, if_true, if_false, Bool.not_true, Bool.not_false, exists_and_left, Bool.true_xor, Bool.false_xor, dDGet, dDIn, dDNewK, dDNewT, sDPutD, dKyE, dKyT, keyD]
  intro p hp
  simp only [d__law_play_t1, dVar, dC, dOp, dUn, dNil, dCons, dTup, dLst, dCB, dTest, dAnd, dOr, dNot, dAndV, dOrV, dNotV, dIfE, dChain, sNext, sSeq, sBreak, sCont, sDrop, sRet, sRetN, sIf, gdName, gdNil, gdCons, gdTup, gdSub, sAsg, dCall, xOf, sFor, dSeq, dRng1, dRng2, dI, dI0, dB0, dAdd, dIsN, dNotN, isNon, dIx, dSetL, dNeg, one, two, dLen1, dListOf1, dTupOf1, dAbs1, dIntOf1, dII, marg, dAppend1, dExtend1, dIsi, isA, dSl, dPart, dNoPart, dCut, dLc, dYes, sRaise, sTry, exBy, sPar2, sPar3, dIsBl, dNotBl, dBM, dBM0, dEq, dNe, dIn, dSgn, dIsiT2, isAny, dLenSet, dLstL, dOfE, dIxL, dCon, fLen, fTup, fSum, fMax, fMin, fAll, fAny, dEqLL, dNeLL, dLenSetL, dRefL, sTryN, exByN, goneD, withD, dXf, sRaiseF, dLc2, dEnum, dListRg1, dListRg2, dTupRg1, dTupRg2, dStrOf1, dRep, dstart, fnE_nx, fnE_rt, fnE_ex, Nat.zero_le, Nat.reduceLeDiff, decide_true, decide_false, true_or, or_true, false_or, or_false, decide_eq_true_eq, exists_eq_left', exists_eq_left, exists_eq_right, exists_eq_right', Option.some.injEq, List.cons.injEq, D.int.injEq, D.bl.injEq, D.str.injEq, D.tup.injEq, D.lro.injEq, D.ref.injEq, DO.lst.injEq, and_true, true_and, and_false, false_and, exists_false, exists_const, List.getElem?_cons_zero, List.getElem?_cons_succ, List.map_cons, List.map_nil, List.length_cons, List.length_nil, List.replicate_zero, List.replicate_succ, List.append_nil, List.cons_append, List.nil_append, List.set_cons_zero, List.set_cons_succ, Nat.reduceAdd, Nat.reduceSub, Nat.zero_add, reduceIte, Bool.false_eq_true, reduceCtorEq, if_true, if_false, Bool.not_true, Bool.not_false, exists_and_left, Bool.true_xor, Bool.false_xor, dDGet, dDIn, dDNewK, dDNewT, sDPutD, dKyE, dKyT, keyD]
  intro w hw
  have hne : p ≠ w := fresh_ne updD_same hw
  simp only [d__law_play_t2, dVar, dC, dOp, dUn, dNil, dCons, dTup, dLst, dCB, dTest, dAnd, dOr, dNot, dAndV, dOrV, dNotV, dIfE, dChain, sNext, sSeq, sBreak, sCont, sDrop, sRet, sRetN, sIf, gdName, gdNil, gdCons, gdTup, gdSub, sAsg, dCall, xOf, sFor, dSeq, dRng1, dRng2, dI, dI0, dB0, dAdd, dIsN, dNotN, isNon, dIx, dSetL, dNeg, one, two, dLen1, dListOf1, dTupOf1, dAbs1, dIntOf1, dII, marg, dAppend1, dExtend1, dIsi, isA, dSl, dPart, dNoPart, dCut, dLc, dYes, sRaise, sTry, exBy, sPar2, sPar3, dIsBl, dNotBl, dBM, dBM0, dEq, dNe, dIn, dSgn, dIsiT2, isAny, dLenSet, dLstL, dOfE, dIxL, dCon, fLen, fTup, fSum, fMax, fMin, fAll, fAny, dEqLL, dNeLL, dLenSetL, dRefL, sTryN, exByN, goneD, withD, dXf, sRaiseF, dLc2, dEnum, dListRg1, dListRg2, dTupRg1, dTupRg2, dStrOf1, dRep, dstart, fnE_nx, fnE_rt, fnE_ex, Nat.zero_le, Nat.reduceLeDiff, decide_true, decide_false, true_or, or_true, false_or, or_false, decide_eq_true_eq, exists_eq_left', exists_eq_left, exists_eq_right, exists_eq_right', Option.some.injEq, List.cons.injEq, D.int.injEq, D.bl.injEq, D.str.injEq, D.tup.injEq, D.lro.injEq, D.ref.injEq, DO.lst.injEq, and_true, true_and, and_false, false_and, exists_false, exists_const, List.getElem?_cons_zero, List.getElem?_cons_succ, List.map_cons, List.map_nil, List.length_cons, List.length_nil, List.replicate_zero, List.replicate_succ, List.append_nil, List.cons_append, List.nil_append, List.set_cons_zero, List.set_cons_succ, Nat.reduceAdd, Nat.reduceSub, Nat.zero_add, reduceIte, Bool.false_eq_true, reduceCtorEq, if_true, if_false, Bool.not_true, Bool.not_false, exists_and_left, Bool.true_xor, Bool.false_xor, dDGet, dDIn, dDNewK, dDNewT, sDPutD, dKyE, dKyT, keyD]
  simp only [d__law_play_t3, dVar, dC, dOp, dUn, dNil, dCons, dTup, dLst, dCB, dTest, dAnd, dOr, dNot, dAndV, dOrV, dNotV, dIfE, dChain, sNext, sSeq, sBreak, sCont, sDrop, sRet, sRetN, sIf, gdName, gdNil, gdCons, gdTup, gdSub, sAsg, dCall, xOf, sFor, dSeq, dRng1, dRng2, dI, dI0, dB0, dAdd, dIsN, dNotN, isNon, dIx, dSetL, dNeg, one, two, dLen1, dListOf1, dTupOf1, dAbs1, dIntOf1, dII, marg, dAppend1, dExtend1, dIsi, isA, dSl, dPart, dNoPart, dCut, dLc, dYes, sRaise, sTry, exBy, sPar2, sPar3, dIsBl, dNotBl, dBM, dBM0, dEq, dNe, dIn, dSgn, dIsiT2, isAny, dLenSet, dLstL, dOfE, dIxL, dCon, fLen, fTup, fSum, fMax, fMin, fAll, fAny, dEqLL, dNeLL, dLenSetL, dRefL, sTryN, exByN, goneD, withD, dXf, sRaiseF, dLc2, dEnum, dListRg1, dListRg2, dTupRg1, dTupRg2, dStrOf1, dRep, dstart, fnE_nx, fnE_rt, fnE_ex, Nat.zero_le, Nat.reduceLeDiff, decide_true, decide_false, true_or, or_true, false_or, or_false, decide_eq_true_eq, exists_eq_left', exists_eq_left, exists_eq_right, exists_eq_right', Option.some.injEq, List.cons.injEq, D.int.injEq, D.bl.injEq, D.str.injEq, D.tup.injEq, D.lro.injEq, D.ref.injEq, DO.lst.injEq, and_true, true_and, and_false, false_and, exists_false, exists_const, List.getElem?_cons_zero, List.getElem?_cons_succ, List.map_cons, List.map_nil, List.length_cons, List.length_nil, List.replicate_zero, List.replicate_succ, List.append_nil, List.cons_append, List.nil_append, List.set_cons_zero, List.set_cons_succ, Nat.reduceAdd, Nat.reduceSub, Nat.zero_add, reduceIte, Bool.false_eq_true, reduceCtorEq, if_true, if_false, Bool.not_true, Bool.not_false, exists_and_left, Bool.true_xor, Bool.false_xor, dDGet, dDIn, dDNewK, dDNewT, sDPutD, dKyE, dKyT, keyD]
  simp only [d__law_play_t4, dVar, dC, dOp, dUn, dNil, dCons, dTup, dLst, dCB, dTest, dAnd, dOr, dNot, dAndV, dOrV, dNotV, dIfE, dChain, sNext, sSeq, sBreak, sCont, sDrop, sRet, sRetN, sIf, gdName, gdNil, gdCons, gdTup, gdSub, sAsg, dCall, xOf, sFor, dSeq, dRng1, dRng2, dI, dI0, dB0, dAdd, dIsN, dNotN, isNon, dIx, dSetL, dNeg, one, two, dLen1, dListOf1, dTupOf1, dAbs1, dIntOf1, dII, marg, dAppend1, dExtend1, dIsi, isA, dSl, dPart, dNoPart, dCut, dLc, dYes, sRaise, sTry, exBy, sPar2, sPar3, dIsBl, dNotBl, dBM, dBM0, dEq, dNe, dIn, dSgn, dIsiT2, isAny, dLenSet, dLstL, dOfE, dIxL, dCon, fLen, fTup, fSum, fMax, fMin, fAll, fAny, dEqLL, dNeLL, dLenSetL, dRefL, sTryN, exByN, goneD, withD, dXf, sRaiseF, dLc2, dEnum, dListRg1, dListRg2, dTupRg1, dTupRg2, dStrOf1, dRep, dstart, fnE_nx, fnE_rt, fnE_ex, Nat.zero_le, Nat.reduceLeDiff, decide_true, decide_false, true_or, or_true, false_or, or_false, decide_eq_true_eq, exists_eq_left', exists_eq_left, exists_eq_right, exists_eq_right', Option.some.injEq, List.cons.injEq, D.int.injEq, D.bl.injEq, D.str.injEq, D.tup.injEq, D.lro.injEq, D.ref.injEq, DO.lst.injEq, and_true, true_and, and_false, false_and, exists_false, exists_const, List.getElem?_cons_zero, List.getElem?_cons_succ, List.map_cons, List.map_nil, List.length_cons, List.length_nil, List.replicate_zero, List.replicate_succ, List.append_nil, List.cons_append, List.nil_append, List.set_cons_zero, List.set_cons_succ, Nat.reduceAdd, Nat.reduceSub, Nat.zero_add, reduceIte, Bool.false_eq_true, reduceCtorEq, if_true, if_false, Bool.not_true, Bool.not_false, exists_and_left, Bool.true_xor, Bool.false_xor, dDGet, dDIn, dDNewK, dDNewT, sDPutD, dKyE, dKyT, keyD]
  have hwL : L w = none := by rw [updD_ne (Ne.symm hne)] at hw; exact hw
  refine ⟨PlayI rows tb pl as start p w L, ⟨fuelP rows as, [], start, 0, _, _, _, by simp, List.nodup_nil, (fun x h => by cases h), ⟨s0, s1, by show (0 : Int) ≤ 0; decide, by have := hP.a1; show (0 : Int) < as.length; omega⟩, (Le.upd hp).trans (Le.upd hw), by rw [updD_ne hne, updD_same]; rfl, updD_same, rfl, rfl⟩, ?_⟩
  rintro m s L' ⟨met, v, k, o10, o11, o12, hm, hnd, hin, hvk, hle, hpp, hww, hr, rfl⟩
  have hml := met_len hnd hin
  obtain ⟨v0, v1, k0, k1⟩ := id hvk
  have v0 : 0 ≤ v := v0
  have v1 : v < rows.length := v1
  have k0 : 0 ≤ k := k0
  have k1 : k < as.length := k1
  have hfl : fuelP rows as = rows.length * as.length + 1 := rfl
  obtain ⟨m, rfl⟩ : ∃ m', m = m' + 1 := ⟨m - 1, by omega⟩
  have hmx : met.length ≤ 1000000 := by
    have h1 := hP.len
    have h2 := hP.a2
    have : rows.length * as.length ≤ 1000 * 1000 := Nat.mul_le_mul h1 h2
    omega
  have hnext : ∀ (v' k' : Int) (o10 o11 o12 : Option D) (L'' : DH), (v, k) ∉ met → InP rows.length as.length (v', k') → Le L L'' → L'' p = some (.dtp (metD 0 (met ++ [(v, k)]))) → L'' w = some (.lst (wayD (met ++ [(v, k)]))) → playF rows tb pl as (m + 1) met v k = playF rows tb pl as m (met ++ [(v, k)]) v' k' →
      ∃ m', m' < m + 1 ∧ PlayI rows tb pl as start p w L m' [some (.tup rows), some (.int pl), some (.tup tb), some (.int start), some (.tup (as.map .int)), some (.ref p), some (.ref w), some (.int v'), some (.int k'), none, o10, o11, o12] L'' :=
    fun v' k' o10 o11 o12 L'' hn h1 h2 h3 h4 h5 => ⟨m, by omega, met ++ [(v, k)], v', k', o10, o11, o12, by rw [List.length_append, List.length_singleton]; omega,
      List.nodup_append.mpr ⟨hnd, by simp, by simpa using fun a b hab e1 e2 => hn (by rw [← e1, ← e2]; exact hab)⟩, (fun x hx => by
        rcases List.mem_append.mp hx with h | h
        · exact hin x h
        · rw [List.mem_singleton.mp h]; exact hvk), h1, h2, h3, h4, hr.trans h5, rfl⟩
  simp only [dVar, dC, dOp, dUn, dNil, dCons, dTup, dLst, dCB, dTest, dAnd, dOr, dNot, dAndV, dOrV, dNotV, dIfE, dChain, sNext, sSeq, sBreak, sCont, sDrop, sRet, sRetN, sIf, gdName, gdNil, gdCons, gdTup, gdSub, sAsg, dCall, xOf, sFor, dSeq, dRng1, dRng2, dI, dI0, dB0, dAdd, dIsN, dNotN, isNon, dIx, dSetL, dNeg, one, two, dLen1, dListOf1, dTupOf1, dAbs1, dIntOf1, dII, marg, dAppend1, dExtend1, dIsi, isA, dSl, dPart, dNoPart, dCut, dLc, dYes, sRaise, sTry, exBy, sPar2, sPar3, dIsBl, dNotBl, dBM, dBM0, dEq, dNe, dIn, dSgn, dIsiT2, isAny, dLenSet, dLstL, dOfE, dIxL, dCon, fLen, fTup, fSum, fMax, fMin, fAll, fAny, dEqLL, dNeLL, dLenSetL, dRefL, sTryN, exByN, goneD, withD, dXf, sRaiseF, dLc2, dEnum, dListRg1, dListRg2, dTupRg1, dTupRg2, dStrOf1, dRep, dstart, fnE_nx, fnE_rt, fnE_ex, Nat.zero_le, Nat.reduceLeDiff, decide_true, decide_false, true_or, or_true, false_or, or_false, decide_eq_true_eq, exists_eq_left', exists_eq_left, exists_eq_right, exists_eq_right', Option.some.injEq, List.cons.injEq, D.int.injEq, D.bl.injEq, D.str.injEq, D.tup.injEq, D.lro.injEq, D.ref.injEq, DO.lst.injEq, and_true, true_and, and_false, false_and, exists_false, exists_const, List.getElem?_cons_zero, List.getElem?_cons_succ, List.map_cons, List.map_nil, List.length_cons, List.length_nil, List.replicate_zero, List.replicate_succ, List.append_nil, List.cons_append, List.nil_append, List.set_cons_zero, List.set_cons_succ, Nat.reduceAdd, Nat.reduceSub, Nat.zero_add, reduceIte, Bool.false_eq_true, reduceCtorEq, if_true, if_false, Bool.not_true, Bool.not_false, exists_and_left, Bool.true_xor, Bool.false_xor, dDGet, dDIn, dDNewK, dDNewT, sDPutD, dKyE, dKyT, keyD]
  refine ⟨_, keys_pv v k, _, getK_met hpp v k, ?_⟩
  by_cases hmem : (v, k) ∈ met
  · rw [if_pos hmem]
    simp only [Option.isSome_some, dVar, dC, dOp, dUn, dNil, dCons, dTup, dLst, dCB, dTest, dAnd, dOr, dNot, dAndV, dOrV, dNotV, dIfE, dChain, sNext, sSeq, sBreak, sCont, sDrop, sRet, sRetN, sIf, gdName, gdNil, gdCons, gdTup, gdSub, sAsg, dCall, xOf, sFor, dSeq, dRng1, dRng2, dI, dI0, dB0, dAdd, dIsN, dNotN, isNon, dIx, dSetL, dNeg, one, two, dLen1, dListOf1, dTupOf1, dAbs1, dIntOf1, dII, marg, dAppend1, dExtend1, dIsi, isA, dSl, dPart, dNoPart, dCut, dLc, dYes, sRaise, sTry, exBy, sPar2, sPar3, dIsBl, dNotBl, dBM, dBM0, dEq, dNe, dIn, dSgn, dIsiT2, isAny, dLenSet, dLstL, dOfE, dIxL, dCon, fLen, fTup, fSum, fMax, fMin, fAll, fAny, dEqLL, dNeLL, dLenSetL, dRefL, sTryN, exByN, goneD, withD, dXf, sRaiseF, dLc2, dEnum, dListRg1, dListRg2, dTupRg1, dTupRg2, dStrOf1, dRep, dstart, fnE_nx, fnE_rt, fnE_ex, Nat.zero_le, Nat.reduceLeDiff, decide_true, decide_false, true_or, or_true, false_or, or_false, decide_eq_true_eq, exists_eq_left', exists_eq_left, exists_eq_right, exists_eq_right', Option.some.injEq, List.cons.injEq, D.int.injEq, D.bl.injEq, D.str.injEq, D.tup.injEq, D.lro.injEq, D.ref.injEq, DO.lst.injEq, and_true, true_and, and_false, false_and, exists_false, exists_const, List.getElem?_cons_zero, List.getElem?_cons_succ, List.map_cons, List.map_nil, List.length_cons, List.length_nil, List.replicate_zero, List.replicate_succ, List.append_nil, List.cons_append, List.nil_append, List.set_cons_zero, List.set_cons_succ, Nat.reduceAdd, Nat.reduceSub, Nat.zero_add, reduceIte, Bool.false_eq_true, reduceCtorEq, if_true, if_false, Bool.not_true, Bool.not_false, exists_and_left, Bool.true_xor, Bool.false_xor, dDGet, dDIn, dDNewK, dDNewT, sDPutD, dKyE, dKyT, keyD]
    have hpf : playF rows tb pl as (m + 1) met v k = .tup [.tup (wayD (met.take (met.idxOf (v, k)))), .tup (wayD (met.drop (met.idxOf (v, k))))] := by
      show (if (v, k) ∈ met then _ else _) = _
      rw [if_pos hmem]
    simp only [d__law_play_t5, dVar, dC, dOp, dUn, dNil, dCons, dTup, dLst, dCB, dTest, dAnd, dOr, dNot, dAndV, dOrV, dNotV, dIfE, dChain, sNext, sSeq, sBreak, sCont, sDrop, sRet, sRetN, sIf, gdName, gdNil, gdCons, gdTup, gdSub, sAsg, dCall, xOf, sFor, dSeq, dRng1, dRng2, dI, dI0, dB0, dAdd, dIsN, dNotN, isNon, dIx, dSetL, dNeg, one, two, dLen1, dListOf1, dTupOf1, dAbs1, dIntOf1, dII, marg, dAppend1, dExtend1, dIsi, isA, dSl, dPart, dNoPart, dCut, dLc, dYes, sRaise, sTry, exBy, sPar2, sPar3, dIsBl, dNotBl, dBM, dBM0, dEq, dNe, dIn, dSgn, dIsiT2, isAny, dLenSet, dLstL, dOfE, dIxL, dCon, fLen, fTup, fSum, fMax, fMin, fAll, fAny, dEqLL, dNeLL, dLenSetL, dRefL, sTryN, exByN, goneD, withD, dXf, sRaiseF, dLc2, dEnum, dListRg1, dListRg2, dTupRg1, dTupRg2, dStrOf1, dRep, dstart, fnE_nx, fnE_rt, fnE_ex, Nat.zero_le, Nat.reduceLeDiff, decide_true, decide_false, true_or, or_true, false_or, or_false, decide_eq_true_eq, exists_eq_left', exists_eq_left, exists_eq_right, exists_eq_right', Option.some.injEq, List.cons.injEq, D.int.injEq, D.bl.injEq, D.str.injEq, D.tup.injEq, D.lro.injEq, D.ref.injEq, DO.lst.injEq, and_true, true_and, and_false, false_and, exists_false, exists_const, List.getElem?_cons_zero, List.getElem?_cons_succ, List.map_cons, List.map_nil, List.length_cons, List.length_nil, List.replicate_zero, List.replicate_succ, List.append_nil, List.cons_append, List.nil_append, List.set_cons_zero, List.set_cons_succ, Nat.reduceAdd, Nat.reduceSub, Nat.zero_add, reduceIte, Bool.false_eq_true, reduceCtorEq, if_true, if_false, Bool.not_true, Bool.not_false, exists_and_left, Bool.true_xor, Bool.false_xor, dDGet, dDIn, dDNewK, dDNewT, sDPutD, dKyE, dKyT, keyD]
    refine ⟨_, keys_pv v k, _, by rw [getK_met hpp v k, if_pos hmem], ?_⟩
    simp only [d__law_play_t6, dVar, dC, dOp, dUn, dNil, dCons, dTup, dLst, dCB, dTest, dAnd, dOr, dNot, dAndV, dOrV, dNotV, dIfE, dChain, sNext, sSeq, sBreak, sCont, sDrop, sRet, sRetN, sIf, gdName, gdNil, gdCons, gdTup, gdSub, sAsg, dCall, xOf, sFor, dSeq, dRng1, dRng2, dI, dI0, dB0, dAdd, dIsN, dNotN, isNon, dIx, dSetL, dNeg, one, two, dLen1, dListOf1, dTupOf1, dAbs1, dIntOf1, dII, marg, dAppend1, dExtend1, dIsi, isA, dSl, dPart, dNoPart, dCut, dLc, dYes, sRaise, sTry, exBy, sPar2, sPar3, dIsBl, dNotBl, dBM, dBM0, dEq, dNe, dIn, dSgn, dIsiT2, isAny, dLenSet, dLstL, dOfE, dIxL, dCon, fLen, fTup, fSum, fMax, fMin, fAll, fAny, dEqLL, dNeLL, dLenSetL, dRefL, sTryN, exByN, goneD, withD, dXf, sRaiseF, dLc2, dEnum, dListRg1, dListRg2, dTupRg1, dTupRg2, dStrOf1, dRep, dstart, fnE_nx, fnE_rt, fnE_ex, Nat.zero_le, Nat.reduceLeDiff, decide_true, decide_false, true_or, or_true, false_or, or_false, decide_eq_true_eq, exists_eq_left', exists_eq_left, exists_eq_right, exists_eq_right', Option.some.injEq, List.cons.injEq, D.int.injEq, D.bl.injEq, D.str.injEq, D.tup.injEq, D.lro.injEq, D.ref.injEq, DO.lst.injEq, and_true, true_and, and_false, false_and, exists_false, exists_const, List.getElem?_cons_zero, List.getElem?_cons_succ, List.map_cons, List.map_nil, List.length_cons, List.length_nil, List.replicate_zero, List.replicate_succ, List.append_nil, List.cons_append, List.nil_append, List.set_cons_zero, List.set_cons_succ, Nat.reduceAdd, Nat.reduceSub, Nat.zero_add, reduceIte, Bool.false_eq_true, reduceCtorEq, if_true, if_false, Bool.not_true, Bool.not_false, exists_and_left, Bool.true_xor, Bool.false_xor, dDGet, dDIn, dDNewK, dDNewT, sDPutD, dKyE, dKyT, keyD]
    refine ⟨_, hww, fun p1 hp1 => ?_⟩
    have g1 : upd L' p1 (.lst (cut (wayD met) none (some ((met.idxOf (v, k) : Nat) : Int)))) w = some (.lst (wayD met)) := by rw [updD_ne (fresh_ne hww hp1)]; exact hww
    refine ⟨_, updD_same, _, g1, fun p2 hp2 => ⟨_, updD_same, ?_⟩⟩
    have lep := hle.trans ((Le.upd hp1).trans (Le.upd (o := .lst (cut (wayD met) (some ((met.idxOf (v, k) : Nat) : Int)) none)) hp2))
    generalize upd (upd L' p1 (.lst (cut (wayD met) none (some ((met.idxOf (v, k) : Nat) : Int))))) p2 (.lst (cut (wayD met) (some ((met.idxOf (v, k) : Nat) : Int)) none)) = LL at lep
    rw [cut_to (by omega), cut_from (by omega), Int.toNat_natCast]
    have e1 : (wayD met).take (met.idxOf (v, k)) = wayD (met.take (met.idxOf (v, k))) := by unfold wayD; rw [List.map_take]
    have e2 : (wayD met).drop (met.idxOf (v, k)) = wayD (met.drop (met.idxOf (v, k))) := by unfold wayD; rw [List.map_drop]
    rw [e1, e2, ← hpf, ← hr]
    exact ⟨L, lep, q⟩
  · rw [if_neg hmem]
    simp only [Option.isSome_none, dVar, dC, dOp, dUn, dNil, dCons, dTup, dLst, dCB, dTest, dAnd, dOr, dNot, dAndV, dOrV, dNotV, dIfE, dChain, sNext, sSeq, sBreak, sCont, sDrop, sRet, sRetN, sIf, gdName, gdNil, gdCons, gdTup, gdSub, sAsg, dCall, xOf, sFor, dSeq, dRng1, dRng2, dI, dI0, dB0, dAdd, dIsN, dNotN, isNon, dIx, dSetL, dNeg, one, two, dLen1, dListOf1, dTupOf1, dAbs1, dIntOf1, dII, marg, dAppend1, dExtend1, dIsi, isA, dSl, dPart, dNoPart, dCut, dLc, dYes, sRaise, sTry, exBy, sPar2, sPar3, dIsBl, dNotBl, dBM, dBM0, dEq, dNe, dIn, dSgn, dIsiT2, isAny, dLenSet, dLstL, dOfE, dIxL, dCon, fLen, fTup, fSum, fMax, fMin, fAll, fAny, dEqLL, dNeLL, dLenSetL, dRefL, sTryN, exByN, goneD, withD, dXf, sRaiseF, dLc2, dEnum, dListRg1, dListRg2, dTupRg1, dTupRg2, dStrOf1, dRep, dstart, fnE_nx, fnE_rt, fnE_ex, Nat.zero_le, Nat.reduceLeDiff, decide_true, decide_false, true_or, or_true, false_or, or_false, decide_eq_true_eq, exists_eq_left', exists_eq_left, exists_eq_right, exists_eq_right', Option.some.injEq, List.cons.injEq, D.int.injEq, D.bl.injEq, D.str.injEq, D.tup.injEq, D.lro.injEq, D.ref.injEq, DO.lst.injEq, and_true, true_and, and_false, false_and, exists_false, exists_const, List.getElem?_cons_zero, List.getElem?_cons_succ, List.map_cons, List.map_nil, List.length_cons, List.length_nil, List.replicate_zero, List.replicate_succ, List.append_nil, List.cons_append, List.nil_append, List.set_cons_zero, List.set_cons_succ, Nat.reduceAdd, Nat.reduceSub, Nat.zero_add, reduceIte, Bool.false_eq_true, reduceCtorEq, if_true, if_false, Bool.not_true, Bool.not_false, exists_and_left, Bool.true_xor, Bool.false_xor, dDGet, dDIn, dDNewK, dDNewT, sDPutD, dKyE, dKyT, keyD]
    have hwl : (wayD met).length = met.length := by unfold wayD; rw [List.length_map]
    simp only [d__law_play_b4, dVar, dC, dOp, dUn, dNil, dCons, dTup, dLst, dCB, dTest, dAnd, dOr, dNot, dAndV, dOrV, dNotV, dIfE, dChain, sNext, sSeq, sBreak, sCont, sDrop, sRet, sRetN, sIf, gdName, gdNil, gdCons, gdTup, gdSub, sAsg, dCall, xOf, sFor, dSeq, dRng1, dRng2, dI, dI0, dB0, dAdd, dIsN, dNotN, isNon, dIx, dSetL, dNeg, one, two, dLen1, dListOf1, dTupOf1, dAbs1, dIntOf1, dII, marg, dAppend1, dExtend1, dIsi, isA, dSl, dPart, dNoPart, dCut, dLc, dYes, sRaise, sTry, exBy, sPar2, sPar3, dIsBl, dNotBl, dBM, dBM0, dEq, dNe, dIn, dSgn, dIsiT2, isAny, dLenSet, dLstL, dOfE, dIxL, dCon, fLen, fTup, fSum, fMax, fMin, fAll, fAny, dEqLL, dNeLL, dLenSetL, dRefL, sTryN, exByN, goneD, withD, dXf, sRaiseF, dLc2, dEnum, dListRg1, dListRg2, dTupRg1, dTupRg2, dStrOf1, dRep, dstart, fnE_nx, fnE_rt, fnE_ex, Nat.zero_le, Nat.reduceLeDiff, decide_true, decide_false, true_or, or_true, false_or, or_false, decide_eq_true_eq, exists_eq_left', exists_eq_left, exists_eq_right, exists_eq_right', Option.some.injEq, List.cons.injEq, D.int.injEq, D.bl.injEq, D.str.injEq, D.tup.injEq, D.lro.injEq, D.ref.injEq, DO.lst.injEq, and_true, true_and, and_false, false_and, exists_false, exists_const, List.getElem?_cons_zero, List.getElem?_cons_succ, List.map_cons, List.map_nil, List.length_cons, List.length_nil, List.replicate_zero, List.replicate_succ, List.append_nil, List.cons_append, List.nil_append, List.set_cons_zero, List.set_cons_succ, Nat.reduceAdd, Nat.reduceSub, Nat.zero_add, reduceIte, Bool.false_eq_true, reduceCtorEq, if_true, if_false, Bool.not_true, Bool.not_false, exists_and_left, Bool.true_xor, Bool.false_xor, dDGet, dDIn, dDNewK, dDNewT, sDPutD, dKyE, dKyT, keyD]
    refine ⟨_, hww, _, keys_pv v k, putKD_met hpp (by rw [metD_len]; omega) ?_⟩
    rw [hwl, metD_put hmem]
    have g1 : upd L' p (.dtp (metD 0 (met ++ [(v, k)]))) w = some (.lst (wayD met)) := by rw [updD_ne (Ne.symm hne)]; exact hww
    have le1 := le_own2 (o := .dtp (metD 0 (met ++ [(v, k)]))) hle hp
    have g2 : upd L' p (.dtp (metD 0 (met ++ [(v, k)]))) p = some (.dtp (metD 0 (met ++ [(v, k)]))) := updD_same
    generalize upd L' p (.dtp (metD 0 (met ++ [(v, k)]))) = L1 at g1 le1 g2
    simp only [d__law_play_t4b1, dVar, dC, dOp, dUn, dNil, dCons, dTup, dLst, dCB, dTest, dAnd, dOr, dNot, dAndV, dOrV, dNotV, dIfE, dChain, sNext, sSeq, sBreak, sCont, sDrop, sRet, sRetN, sIf, gdName, gdNil, gdCons, gdTup, gdSub, sAsg, dCall, xOf, sFor, dSeq, dRng1, dRng2, dI, dI0, dB0, dAdd, dIsN, dNotN, isNon, dIx, dSetL, dNeg, one, two, dLen1, dListOf1, dTupOf1, dAbs1, dIntOf1, dII, marg, dAppend1, dExtend1, dIsi, isA, dSl, dPart, dNoPart, dCut, dLc, dYes, sRaise, sTry, exBy, sPar2, sPar3, dIsBl, dNotBl, dBM, dBM0, dEq, dNe, dIn, dSgn, dIsiT2, isAny, dLenSet, dLstL, dOfE, dIxL, dCon, fLen, fTup, fSum, fMax, fMin, fAll, fAny, dEqLL, dNeLL, dLenSetL, dRefL, sTryN, exByN, goneD, withD, dXf, sRaiseF, dLc2, dEnum, dListRg1, dListRg2, dTupRg1, dTupRg2, dStrOf1, dRep, dstart, fnE_nx, fnE_rt, fnE_ex, Nat.zero_le, Nat.reduceLeDiff, decide_true, decide_false, true_or, or_true, false_or, or_false, decide_eq_true_eq, exists_eq_left', exists_eq_left, exists_eq_right, exists_eq_right', Option.some.injEq, List.cons.injEq, D.int.injEq, D.bl.injEq, D.str.injEq, D.tup.injEq, D.lro.injEq, D.ref.injEq, DO.lst.injEq, and_true, true_and, and_false, false_and, exists_false, exists_const, List.getElem?_cons_zero, List.getElem?_cons_succ, List.map_cons, List.map_nil, List.length_cons, List.length_nil, List.replicate_zero, List.replicate_succ, List.append_nil, List.cons_append, List.nil_append, List.set_cons_zero, List.set_cons_succ, Nat.reduceAdd, Nat.reduceSub, Nat.zero_add, reduceIte, Bool.false_eq_true, reduceCtorEq, if_true, if_false, Bool.not_true, Bool.not_false, exists_and_left, Bool.true_xor, Bool.false_xor, dDGet, dDIn, dDNewK, dDNewT, sDPutD, dKyE, dKyT, keyD]
    refine ⟨⟨_, lstOf_ref g1⟩, _, g1, by omega, ?_⟩
    have ew : wayD met ++ [.int v] = wayD (met ++ [(v, k)]) := by unfold wayD; rw [List.map_append]; rfl
    rw [ew]
    have le2 := le_own2 (o := .lst (wayD (met ++ [(v, k)]))) le1 hwL
    have g3 : upd L1 w (.lst (wayD (met ++ [(v, k)]))) p = some (.dtp (metD 0 (met ++ [(v, k)]))) := by rw [updD_ne hne]; exact g2
    have g4 : upd L1 w (.lst (wayD (met ++ [(v, k)]))) w = some (.lst (wayD (met ++ [(v, k)]))) := updD_same
    generalize upd L1 w (.lst (wayD (met ++ [(v, k)]))) = L2 at le2 g3 g4
    obtain ⟨hat, o0, o1, n1, n2, hnx⟩ := game_at2 hP.g v0 v1
    simp only [d__law_play_t4b2, dVar, dC, dOp, dUn, dNil, dCons, dTup, dLst, dCB, dTest, dAnd, dOr, dNot, dAndV, dOrV, dNotV, dIfE, dChain, sNext, sSeq, sBreak, sCont, sDrop, sRet, sRetN, sIf, gdName, gdNil, gdCons, gdTup, gdSub, sAsg, dCall, xOf, sFor, dSeq, dRng1, dRng2, dI, dI0, dB0, dAdd, dIsN, dNotN, isNon, dIx, dSetL, dNeg, one, two, dLen1, dListOf1, dTupOf1, dAbs1, dIntOf1, dII, marg, dAppend1, dExtend1, dIsi, isA, dSl, dPart, dNoPart, dCut, dLc, dYes, sRaise, sTry, exBy, sPar2, sPar3, dIsBl, dNotBl, dBM, dBM0, dEq, dNe, dIn, dSgn, dIsiT2, isAny, dLenSet, dLstL, dOfE, dIxL, dCon, fLen, fTup, fSum, fMax, fMin, fAll, fAny, dEqLL, dNeLL, dLenSetL, dRefL, sTryN, exByN, goneD, withD, dXf, sRaiseF, dLc2, dEnum, dListRg1, dListRg2, dTupRg1, dTupRg2, dStrOf1, dRep, dstart, fnE_nx, fnE_rt, fnE_ex, Nat.zero_le, Nat.reduceLeDiff, decide_true, decide_false, true_or, or_true, false_or, or_false, decide_eq_true_eq, exists_eq_left', exists_eq_left, exists_eq_right, exists_eq_right', Option.some.injEq, List.cons.injEq, D.int.injEq, D.bl.injEq, D.str.injEq, D.tup.injEq, D.lro.injEq, D.ref.injEq, DO.lst.injEq, and_true, true_and, and_false, false_and, exists_false, exists_const, List.getElem?_cons_zero, List.getElem?_cons_succ, List.map_cons, List.map_nil, List.length_cons, List.length_nil, List.replicate_zero, List.replicate_succ, List.append_nil, List.cons_append, List.nil_append, List.set_cons_zero, List.set_cons_succ, Nat.reduceAdd, Nat.reduceSub, Nat.zero_add, reduceIte, Bool.false_eq_true, reduceCtorEq, if_true, if_false, Bool.not_true, Bool.not_false, exists_and_left, Bool.true_xor, Bool.false_xor, dDGet, dDIn, dDNewK, dDNewT, sDPutD, dKyE, dKyT, keyD]
    refine ⟨_, hat, ?_⟩
    simp only [dVar, dC, dOp, dUn, dNil, dCons, dTup, dLst, dCB, dTest, dAnd, dOr, dNot, dAndV, dOrV, dNotV, dIfE, dChain, sNext, sSeq, sBreak, sCont, sDrop, sRet, sRetN, sIf, gdName, gdNil, gdCons, gdTup, gdSub, sAsg, dCall, xOf, sFor, dSeq, dRng1, dRng2, dI, dI0, dB0, dAdd, dIsN, dNotN, isNon, dIx, dSetL, dNeg, one, two, dLen1, dListOf1, dTupOf1, dAbs1, dIntOf1, dII, marg, dAppend1, dExtend1, dIsi, isA, dSl, dPart, dNoPart, dCut, dLc, dYes, sRaise, sTry, exBy, sPar2, sPar3, dIsBl, dNotBl, dBM, dBM0, dEq, dNe, dIn, dSgn, dIsiT2, isAny, dLenSet, dLstL, dOfE, dIxL, dCon, fLen, fTup, fSum, fMax, fMin, fAll, fAny, dEqLL, dNeLL, dLenSetL, dRefL, sTryN, exByN, goneD, withD, dXf, sRaiseF, dLc2, dEnum, dListRg1, dListRg2, dTupRg1, dTupRg2, dStrOf1, dRep, dstart, fnE_nx, fnE_rt, fnE_ex, Nat.zero_le, Nat.reduceLeDiff, decide_true, decide_false, true_or, or_true, false_or, or_false, decide_eq_true_eq, exists_eq_left', exists_eq_left, exists_eq_right, exists_eq_right', Option.some.injEq, List.cons.injEq, D.int.injEq, D.bl.injEq, D.str.injEq, D.tup.injEq, D.lro.injEq, D.ref.injEq, DO.lst.injEq, and_true, true_and, and_false, false_and, exists_false, exists_const, List.getElem?_cons_zero, List.getElem?_cons_succ, List.map_cons, List.map_nil, List.length_cons, List.length_nil, List.replicate_zero, List.replicate_succ, List.append_nil, List.cons_append, List.nil_append, List.set_cons_zero, List.set_cons_succ, Nat.reduceAdd, Nat.reduceSub, Nat.zero_add, reduceIte, Bool.false_eq_true, reduceCtorEq, if_true, if_false, Bool.not_true, Bool.not_false, exists_and_left, Bool.true_xor, Bool.false_xor, dDGet, dDIn, dDNewK, dDNewT, sDPutD, dKyE, dKyT, keyD]
    simp only [d__law_play_t4b3, dVar, dC, dOp, dUn, dNil, dCons, dTup, dLst, dCB, dTest, dAnd, dOr, dNot, dAndV, dOrV, dNotV, dIfE, dChain, sNext, sSeq, sBreak, sCont, sDrop, sRet, sRetN, sIf, gdName, gdNil, gdCons, gdTup, gdSub, sAsg, dCall, xOf, sFor, dSeq, dRng1, dRng2, dI, dI0, dB0, dAdd, dIsN, dNotN, isNon, dIx, dSetL, dNeg, one, two, dLen1, dListOf1, dTupOf1, dAbs1, dIntOf1, dII, marg, dAppend1, dExtend1, dIsi, isA, dSl, dPart, dNoPart, dCut, dLc, dYes, sRaise, sTry, exBy, sPar2, sPar3, dIsBl, dNotBl, dBM, dBM0, dEq, dNe, dIn, dSgn, dIsiT2, isAny, dLenSet, dLstL, dOfE, dIxL, dCon, fLen, fTup, fSum, fMax, fMin, fAll, fAny, dEqLL, dNeLL, dLenSetL, dRefL, sTryN, exByN, goneD, withD, dXf, sRaiseF, dLc2, dEnum, dListRg1, dListRg2, dTupRg1, dTupRg2, dStrOf1, dRep, dstart, fnE_nx, fnE_rt, fnE_ex, Nat.zero_le, Nat.reduceLeDiff, decide_true, decide_false, true_or, or_true, false_or, or_false, decide_eq_true_eq, exists_eq_left', exists_eq_left, exists_eq_right, exists_eq_right', Option.some.injEq, List.cons.injEq, D.int.injEq, D.bl.injEq, D.str.injEq, D.tup.injEq, D.lro.injEq, D.ref.injEq, DO.lst.injEq, and_true, true_and, and_false, false_and, exists_false, exists_const, List.getElem?_cons_zero, List.getElem?_cons_succ, List.map_cons, List.map_nil, List.length_cons, List.length_nil, List.replicate_zero, List.replicate_succ, List.append_nil, List.cons_append, List.nil_append, List.set_cons_zero, List.set_cons_succ, Nat.reduceAdd, Nat.reduceSub, Nat.zero_add, reduceIte, Bool.false_eq_true, reduceCtorEq, if_true, if_false, Bool.not_true, Bool.not_false, exists_and_left, Bool.true_xor, Bool.false_xor, dDGet, dDIn, dDNewK, dDNewT, sDPutD, dKyE, dKyT, keyD, eqD_int]
    have hpf : playF rows tb pl as (m + 1) met v k = (if rowOw rows v = pl then (match tb.getD v.toNat .non with
      | .int x => playF rows tb pl as m (met ++ [(v, k)]) x k
      | _ => .tup [.tup (wayD (met ++ [(v, k)])), .tup []])
      else playF rows tb pl as m (met ++ [(v, k)]) (nextW rows as v k) ((k + 1) % as.length)) := by
      show (if (v, k) ∈ met then _ else _) = _
      rw [if_neg hmem]
    by_cases ho : rowOw rows v = pl
    · have hbo : (rowOw rows v == pl) = true := beq_iff_eq.mpr ho
      rw [if_pos hbo]
      rw [if_pos ho] at hpf
      refine ⟨_, atI_getD v0 (by rw [hP.t.len]; exact v1), ?_⟩
      rcases hP.t.ent v v0 v1 with he | ⟨x, he, hx, _⟩
      · rw [he] at hpf ⊢
        rw [if_pos rfl]
        have hpf : _ = D.tup [.tup (wayD (met ++ [(v, k)])), .tup []] := hpf
        refine ⟨_, g4, L, le2, ?_⟩
        rw [← hpf, ← hr]
        exact q
      · rw [he] at hpf ⊢
        rw [if_neg (by intro h; cases h)]
        have hpf : _ = playF rows tb pl as m (met ++ [(v, k)]) x k := hpf
        simp only [d__law_play_t4b3a1, dVar, dC, dOp, dUn, dNil, dCons, dTup, dLst, dCB, dTest, dAnd, dOr, dNot, dAndV, dOrV, dNotV, dIfE, dChain, sNext, sSeq, sBreak, sCont, sDrop, sRet, sRetN, sIf, gdName, gdNil, gdCons, gdTup, gdSub, sAsg, dCall, xOf, sFor, dSeq, dRng1, dRng2, dI, dI0, dB0, dAdd, dIsN, dNotN, isNon, dIx, dSetL, dNeg, one, two, dLen1, dListOf1, dTupOf1, dAbs1, dIntOf1, dII, marg, dAppend1, dExtend1, dIsi, isA, dSl, dPart, dNoPart, dCut, dLc, dYes, sRaise, sTry, exBy, sPar2, sPar3, dIsBl, dNotBl, dBM, dBM0, dEq, dNe, dIn, dSgn, dIsiT2, isAny, dLenSet, dLstL, dOfE, dIxL, dCon, fLen, fTup, fSum, fMax, fMin, fAll, fAny, dEqLL, dNeLL, dLenSetL, dRefL, sTryN, exByN, goneD, withD, dXf, sRaiseF, dLc2, dEnum, dListRg1, dListRg2, dTupRg1, dTupRg2, dStrOf1, dRep, dstart, fnE_nx, fnE_rt, fnE_ex, Nat.zero_le, Nat.reduceLeDiff, decide_true, decide_false, true_or, or_true, false_or, or_false, decide_eq_true_eq, exists_eq_left', exists_eq_left, exists_eq_right, exists_eq_right', Option.some.injEq, List.cons.injEq, D.int.injEq, D.bl.injEq, D.str.injEq, D.tup.injEq, D.lro.injEq, D.ref.injEq, DO.lst.injEq, and_true, true_and, and_false, false_and, exists_false, exists_const, List.getElem?_cons_zero, List.getElem?_cons_succ, List.map_cons, List.map_nil, List.length_cons, List.length_nil, List.replicate_zero, List.replicate_succ, List.append_nil, List.cons_append, List.nil_append, List.set_cons_zero, List.set_cons_succ, Nat.reduceAdd, Nat.reduceSub, Nat.zero_add, reduceIte, Bool.false_eq_true, reduceCtorEq, if_true, if_false, Bool.not_true, Bool.not_false, exists_and_left, Bool.true_xor, Bool.false_xor, dDGet, dDIn, dDNewK, dDNewT, sDPutD, dKyE, dKyT, keyD]
        obtain ⟨x0, x1⟩ := hnx x hx
        refine ⟨_, (atI_getD v0 (by rw [hP.t.len]; exact v1)).trans (congrArg some he), ?_⟩
        exact hnext x k _ _ _ L2 hmem ⟨x0, x1, k0, k1⟩ le2 g3 g4 hpf
    · have hbo : (rowOw rows v == pl) = false := beq_eq_false_iff_ne.mpr ho
      rw [hbo]
      rw [if_neg ho] at hpf
      simp only [dVar, dC, dOp, dUn, dNil, dCons, dTup, dLst, dCB, dTest, dAnd, dOr, dNot, dAndV, dOrV, dNotV, dIfE, dChain, sNext, sSeq, sBreak, sCont, sDrop, sRet, sRetN, sIf, gdName, gdNil, gdCons, gdTup, gdSub, sAsg, dCall, xOf, sFor, dSeq, dRng1, dRng2, dI, dI0, dB0, dAdd, dIsN, dNotN, isNon, dIx, dSetL, dNeg, one, two, dLen1, dListOf1, dTupOf1, dAbs1, dIntOf1, dII, marg, dAppend1, dExtend1, dIsi, isA, dSl, dPart, dNoPart, dCut, dLc, dYes, sRaise, sTry, exBy, sPar2, sPar3, dIsBl, dNotBl, dBM, dBM0, dEq, dNe, dIn, dSgn, dIsiT2, isAny, dLenSet, dLstL, dOfE, dIxL, dCon, fLen, fTup, fSum, fMax, fMin, fAll, fAny, dEqLL, dNeLL, dLenSetL, dRefL, sTryN, exByN, goneD, withD, dXf, sRaiseF, dLc2, dEnum, dListRg1, dListRg2, dTupRg1, dTupRg2, dStrOf1, dRep, dstart, fnE_nx, fnE_rt, fnE_ex, Nat.zero_le, Nat.reduceLeDiff, decide_true, decide_false, true_or, or_true, false_or, or_false, decide_eq_true_eq, exists_eq_left', exists_eq_left, exists_eq_right, exists_eq_right', Option.some.injEq, List.cons.injEq, D.int.injEq, D.bl.injEq, D.str.injEq, D.tup.injEq, D.lro.injEq, D.ref.injEq, DO.lst.injEq, and_true, true_and, and_false, false_and, exists_false, exists_const, List.getElem?_cons_zero, List.getElem?_cons_succ, List.map_cons, List.map_nil, List.length_cons, List.length_nil, List.replicate_zero, List.replicate_succ, List.append_nil, List.cons_append, List.nil_append, List.set_cons_zero, List.set_cons_succ, Nat.reduceAdd, Nat.reduceSub, Nat.zero_add, reduceIte, Bool.false_eq_true, reduceCtorEq, if_true, if_false, Bool.not_true, Bool.not_false, exists_and_left, Bool.true_xor, Bool.false_xor, dDGet, dDIn, dDNewK, dDNewT, sDPutD, dKyE, dKyT, keyD]
      have hnl : ((rowNx rows v).map D.int).length = (rowNx rows v).length := List.length_map _
      have m0 : 0 ≤ as.getD k.toNat 0 % ((rowNx rows v).length : Int) := Int.emod_nonneg _ (by omega)
      have m1 : as.getD k.toNat 0 % ((rowNx rows v).length : Int) < (rowNx rows v).length := Int.emod_lt_of_pos _ (by omega)
      refine ⟨_, atI_ints' k0 k1, ?_⟩
      rw [hnl]
      refine ⟨by omega, _, atI_ints' m0 m1, ?_⟩
      have hw0 := hnx (nextW rows as v k) (by
        unfold nextW
        rw [List.getD_eq_getElem?_getD, List.getElem?_eq_getElem (by omega)]
        exact List.getElem_mem _)
      simp only [d__law_play_t4b3e1, dVar, dC, dOp, dUn, dNil, dCons, dTup, dLst, dCB, dTest, dAnd, dOr, dNot, dAndV, dOrV, dNotV, dIfE, dChain, sNext, sSeq, sBreak, sCont, sDrop, sRet, sRetN, sIf, gdName, gdNil, gdCons, gdTup, gdSub, sAsg, dCall, xOf, sFor, dSeq, dRng1, dRng2, dI, dI0, dB0, dAdd, dIsN, dNotN, isNon, dIx, dSetL, dNeg, one, two, dLen1, dListOf1, dTupOf1, dAbs1, dIntOf1, dII, marg, dAppend1, dExtend1, dIsi, isA, dSl, dPart, dNoPart, dCut, dLc, dYes, sRaise, sTry, exBy, sPar2, sPar3, dIsBl, dNotBl, dBM, dBM0, dEq, dNe, dIn, dSgn, dIsiT2, isAny, dLenSet, dLstL, dOfE, dIxL, dCon, fLen, fTup, fSum, fMax, fMin, fAll, fAny, dEqLL, dNeLL, dLenSetL, dRefL, sTryN, exByN, goneD, withD, dXf, sRaiseF, dLc2, dEnum, dListRg1, dListRg2, dTupRg1, dTupRg2, dStrOf1, dRep, dstart, fnE_nx, fnE_rt, fnE_ex, Nat.zero_le, Nat.reduceLeDiff, decide_true, decide_false, true_or, or_true, false_or, or_false, decide_eq_true_eq, exists_eq_left', exists_eq_left, exists_eq_right, exists_eq_right', Option.some.injEq, List.cons.injEq, D.int.injEq, D.bl.injEq, D.str.injEq, D.tup.injEq, D.lro.injEq, D.ref.injEq, DO.lst.injEq, and_true, true_and, and_false, false_and, exists_false, exists_const, List.getElem?_cons_zero, List.getElem?_cons_succ, List.map_cons, List.map_nil, List.length_cons, List.length_nil, List.replicate_zero, List.replicate_succ, List.append_nil, List.cons_append, List.nil_append, List.set_cons_zero, List.set_cons_succ, Nat.reduceAdd, Nat.reduceSub, Nat.zero_add, reduceIte, Bool.false_eq_true, reduceCtorEq, if_true, if_false, Bool.not_true, Bool.not_false, exists_and_left, Bool.true_xor, Bool.false_xor, dDGet, dDIn, dDNewK, dDNewT, sDPutD, dKyE, dKyT, keyD, List.length_map]
      have hal := hP.a1
      refine ⟨by omega, ?_⟩
      exact hnext (nextW rows as v k) ((k + 1) % as.length) _ _ _ L2 hmem ⟨hw0.1, hw0.2, Int.emod_nonneg _ (by omega), Int.emod_lt_of_pos _ (by omega)⟩ le2 g3 g4 hpf
/-- table_play of a game, a table and answers of any kind -/
theorem ans_ints {d : D} (h : ansOk d = true) : ∃ as : List Int, d = .tup (as.map .int) ∧ 1 ≤ as.length ∧ as.length ≤ 1000 ∧ ∀ x, x ∈ as → 0 ≤ x := by
  cases d with
  | tup xs =>
    have h : (decide (1 ≤ xs.length ∧ xs.length ≤ 1000) && xs.all fun x => isInt x && decide (0 ≤ intV x)) = true := h
    rw [Bool.and_eq_true, decide_eq_true_eq] at h
    have hx : ∀ x, x ∈ xs → x = .int (intV x) ∧ 0 ≤ intV x := fun x hx => by
      have := List.all_eq_true.mp h.2 x hx
      rw [Bool.and_eq_true, decide_eq_true_eq] at this
      cases x with
      | int i => exact ⟨rfl, this.2⟩
      | _ => cases this.1
    refine ⟨xs.map intV, ?_, by rw [List.length_map]; exact h.1.1, by rw [List.length_map]; exact h.1.2, fun x hx' => ?_⟩
    · rw [List.map_map]
      congr 1
      exact ((List.map_congr_left fun d hd => (hx d hd).1.symm).trans (List.map_id _)).symm
    · obtain ⟨d, hd, rfl⟩ := List.mem_map.mp hx'
      exact (hx d hd).2
  | _ => cases h
def PlayJ (rows tb : List D) (pl : Int) (as : List Int) (start : Int) (p w : Addr) (L : DH) (m : Nat) (s : DSt) (L' : DH) : Prop := ∃ (met : List PV) (v k : Int) (o10 o11 o12 : Option D), met.length + m = fuelP rows as ∧ met.Nodup ∧ (∀ x, x ∈ met → InP rows.length as.length x) ∧ InP rows.length as.length (v, k) ∧ Le L L' ∧ L' p = some (.dtp (metD 0 met)) ∧ L' w = some (.lst (wayD met)) ∧
    playR rows tb pl as start = playF rows tb pl as m met v k ∧ s = [some (.tup rows), some (.int pl), some (.tup tb), some (.int start), some (.tup (as.map .int)), none, some (.ref p), some (.ref w), some (.int v), some (.int k), o10, o11, o12]
def sp_table_play : SpD := fun ds L Q E => ∃ (rows tb : List D) (pl start : Int) (d : D), ds = [.tup rows, .int pl, .tup tb, .int start, d] ∧ isGame (.tup rows) = true ∧ rows.length ≤ 1000 ∧ Tm L (.tup rows) ∧ TabT rows pl tb ∧ 0 ≤ pl ∧ pl ≤ 1 ∧ 0 ≤ start ∧ start < rows.length ∧ Tm L d ∧
  (ansOk d = false → E "BadAnswers" [] L) ∧ ∀ as : List Int, d = .tup (as.map .int) → ansOk d = true → Q (playR rows tb pl as start) L
theorem len_table_play : ∀ as L Q E, sp_table_play as L Q E → as.length = 5 := by rintro _ L Q E ⟨r, t, p, s, a, rfl, _⟩; rfl
def d_table_play_t4b3a1 : DS :=
  (sAsg (dOp dMod (dOp dAdd (dVar 9) (dC (.int 1))) (dCB dLen (dCons (dVar 4) dNil))) (gdName 9))
def d_table_play_t4b3 : DS :=
  (sIf (dTest (dOp dNe (dVar 10) (dVar 1))) (sSeq (sAsg (dOp dIx (dVar 12) (dOp dMod (dOp dIx (dVar 4) (dVar 9)) (dCB dLen (dCons (dVar 12) dNil)))) (gdName 8)) d_table_play_t4b3a1) (sIf (dTest (dOp dIsN (dOp dIx (dVar 2) (dVar 8)) (dC .non))) (sRet (dTup (dCons (dCB dTupOf (dCons (dVar 7) dNil)) (dCons (dTup dNil) dNil)))) (sAsg (dOp dIx (dVar 2) (dVar 8)) (gdName 8))))
def d_table_play_t4b2 : DS :=
  (sSeq (sAsg (dOp dIx (dVar 0) (dVar 8)) (gdTup 3 (gdCons (gdName 10) (gdCons (gdName 11) (gdCons (gdName 12) gdNil))))) d_table_play_t4b3)
def d_table_play_t4b1 : DS :=
  (sSeq (sDrop (dBM chkL (marg dAppend1) (dVar 7) (dCons (dVar 8) dNil))) d_table_play_t4b2)
def d_table_play_b4 : DS :=
  (sSeq (sDPutD (dCB dLen (dCons (dVar 7) dNil)) (dVar 6) (dKyT (dCons (dVar 8) (dCons (dVar 9) dNil)))) d_table_play_t4b1)
def d_table_play_t6 : DS :=
  (sRet (dTup (dCons (dCB dTupOf (dCons (dSl dCut (dVar 7) dNoPart (dPart (dVar 5))) dNil)) (dCons (dCB dTupOf (dCons (dSl dCut (dVar 7) (dPart (dVar 5)) dNoPart) dNil)) dNil))))
def d_table_play_t5 : DS :=
  (sSeq (sAsg (dDGet (dVar 6) (dKyT (dCons (dVar 8) (dCons (dVar 9) dNil)))) (gdName 5)) d_table_play_t6)
def d_table_play_t4 : DS :=
  (sSeq (sWhile (dTest (dDIn true (dKyT (dCons (dVar 8) (dCons (dVar 9) dNil))) (dVar 6)))
  d_table_play_b4) d_table_play_t5)
def d_table_play_t3 : DS :=
  (sSeq (sAsg (dTup (dCons dDNewT (dCons (dLst dNil) (dCons (dVar 3) (dCons (dC (.int 0)) dNil))))) (gdTup 4 (gdCons (gdName 6) (gdCons (gdName 7) (gdCons (gdName 8) (gdCons (gdName 9) gdNil)))))) d_table_play_t4)
def d_table_play_t2 : DS :=
  (sSeq (sDrop (dCall sp_need_answers (dCons (dVar 4) (dCons (dC (.int 1)) (dCons (dC (.int 1000)) dNil))))) d_table_play_t3)
def d_table_play_t1 : DS :=
  (sSeq (sDrop (dCall sp_need_position (dCons (dVar 0) (dCons (dVar 3) dNil)))) d_table_play_t2)
def d_table_play : DS :=
  (sSeq (sDrop (dCall sp_need_table (dCons (dVar 0) (dCons (dVar 1) (dCons (dVar 2) dNil))))) d_table_play_t1)

theorem pure_table_play : ∀ as L Q E, sp_table_play as L Q E → d_table_play (fnEnds Q E) (dstart 13 as) L := by
  rintro _ L Q E ⟨rows, tb, pl, start, d, rfl, hg, hrl, hrt, htb, pl0, pl1, s0, s1, htd, q1, q2⟩
  simp only [d_table_play, dVar, dC, dOp, dUn, dNil, dCons, dTup, dLst, dCB, dTest, dAnd, dOr, dNot, dAndV, dOrV, dNotV, dIfE, dChain, sNext, sSeq, sBreak, sCont, sDrop, sRet, sRetN, sIf, gdName, gdNil, gdCons, gdTup, gdSub, sAsg, dCall, xOf, sFor, dSeq, dRng1, dRng2, dI, dI0, dB0, dAdd, dIsN, dNotN, isNon, dIx, dSetL, dNeg, one, two, dLen1, dListOf1, dTupOf1, dAbs1, dIntOf1, dII, marg, dAppend1, dExtend1, dIsi, isA, dSl, dPart, dNoPart, dCut, dLc, dYes, sRaise, sTry, exBy, sPar2, sPar3, dIsBl, dNotBl, dBM, dBM0, dEq, dNe, dIn, dSgn, dIsiT2, isAny, dLenSet, dLstL, dOfE, dIxL, dCon, fLen, fTup, fSum, fMax, fMin, fAll, fAny, dEqLL, dNeLL, dLenSetL, dRefL, sTryN, exByN, goneD, withD, dXf, sRaiseF, dLc2, dEnum, dListRg1, dListRg2, dTupRg1, dTupRg2, dStrOf1, dRep, dstart, fnE_nx, fnE_rt, fnE_ex, Nat.zero_le, Nat.reduceLeDiff, decide_true, decide_false, true_or, or_true, false_or, or_false, decide_eq_true_eq, exists_eq_left', exists_eq_left, exists_eq_right, exists_eq_right', Option.some.injEq, List.cons.injEq, D.int.injEq, D.bl.injEq, D.str.injEq, D.tup.injEq, D.lro.injEq, D.ref.injEq, DO.lst.injEq, and_true, true_and, and_false, false_and, exists_false, exists_const, List.getElem?_cons_zero, List.getElem?_cons_succ, List.map_cons, List.map_nil, List.length_cons, List.length_nil, List.replicate_zero, List.replicate_succ, List.append_nil, List.cons_append, List.nil_append, List.set_cons_zero, List.set_cons_succ, Nat.reduceAdd, Nat.reduceSub, Nat.zero_add, reduceIte, Bool.false_eq_true, reduceCtorEq, if_true, if_false, Bool.not_true, Bool.not_false, exists_and_left, Bool.true_xor, Bool.false_xor, dDGet, dDIn, dDNewK, dDNewT, sDPutD, dKyE, dKyT, keyD]
  refine ⟨rows, tb, pl, rfl, hg, hrt, by omega, pl0, pl1, htb, ?_⟩
  simp only [d_table_play_t1, dVar, dC, dOp, dUn, dNil, dCons, dTup, dLst, dCB, dTest, dAnd, dOr, dNot, dAndV, dOrV, dNotV, dIfE, dChain, sNext, sSeq, sBreak, sCont, sDrop, sRet, sRetN, sIf, gdName, gdNil, gdCons, gdTup, gdSub, sAsg, dCall, xOf, sFor, dSeq, dRng1, dRng2, dI, dI0, dB0, dAdd, dIsN, dNotN, isNon, dIx, dSetL, dNeg, one, two, dLen1, dListOf1, dTupOf1, dAbs1, dIntOf1, dII, marg, dAppend1, dExtend1, dIsi, isA, dSl, dPart, dNoPart, dCut, dLc, dYes, sRaise, sTry, exBy, sPar2, sPar3, dIsBl, dNotBl, dBM, dBM0, dEq, dNe, dIn, dSgn, dIsiT2, isAny, dLenSet, dLstL, dOfE, dIxL, dCon, fLen, fTup, fSum, fMax, fMin, fAll, fAny, dEqLL, dNeLL, dLenSetL, dRefL, sTryN, exByN, goneD, withD, dXf, sRaiseF, dLc2, dEnum, dListRg1, dListRg2, dTupRg1, dTupRg2, dStrOf1, dRep, dstart, fnE_nx, fnE_rt, fnE_ex, Nat.zero_le, Nat.reduceLeDiff, decide_true, decide_false, true_or, or_true, false_or, or_false, decide_eq_true_eq, exists_eq_left', exists_eq_left, exists_eq_right, exists_eq_right', Option.some.injEq, List.cons.injEq, D.int.injEq, D.bl.injEq, D.str.injEq, D.tup.injEq, D.lro.injEq, D.ref.injEq, DO.lst.injEq, and_true, true_and, and_false, false_and, exists_false, exists_const, List.getElem?_cons_zero, List.getElem?_cons_succ, List.map_cons, List.map_nil, List.length_cons, List.length_nil, List.replicate_zero, List.replicate_succ, List.append_nil, List.cons_append, List.nil_append, List.set_cons_zero, List.set_cons_succ, Nat.reduceAdd, Nat.reduceSub, Nat.zero_add, reduceIte, Bool.false_eq_true, reduceCtorEq, if_true, if_false, Bool.not_true, Bool.not_false, exists_and_left, Bool.true_xor, Bool.false_xor, dDGet, dDIn, dDNewK, dDNewT, sDPutD, dKyE, dKyT, keyD]
  refine ⟨rows, start, rfl, s0, s1, ?_⟩
  simp only [d_table_play_t2, dVar, dC, dOp, dUn, dNil, dCons, dTup, dLst, dCB, dTest, dAnd, dOr, dNot, dAndV, dOrV, dNotV, dIfE, dChain, sNext, sSeq, sBreak, sCont, sDrop, sRet, sRetN, sIf, gdName, gdNil, gdCons, gdTup, gdSub, sAsg, dCall, xOf, sFor, dSeq, dRng1, dRng2, dI, dI0, dB0, dAdd, dIsN, dNotN, isNon, dIx, dSetL, dNeg, one, two, dLen1, dListOf1, dTupOf1, dAbs1, dIntOf1, dII, marg, dAppend1, dExtend1, dIsi, isA, dSl, dPart, dNoPart, dCut, dLc, dYes, sRaise, sTry, exBy, sPar2, sPar3, dIsBl, dNotBl, dBM, dBM0, dEq, dNe, dIn, dSgn, dIsiT2, isAny, dLenSet, dLstL, dOfE, dIxL, dCon, fLen, fTup, fSum, fMax, fMin, fAll, fAny, dEqLL, dNeLL, dLenSetL, dRefL, sTryN, exByN, goneD, withD, dXf, sRaiseF, dLc2, dEnum, dListRg1, dListRg2, dTupRg1, dTupRg2, dStrOf1, dRep, dstart, fnE_nx, fnE_rt, fnE_ex, Nat.zero_le, Nat.reduceLeDiff, decide_true, decide_false, true_or, or_true, false_or, or_false, decide_eq_true_eq, exists_eq_left', exists_eq_left, exists_eq_right, exists_eq_right', Option.some.injEq, List.cons.injEq, D.int.injEq, D.bl.injEq, D.str.injEq, D.tup.injEq, D.lro.injEq, D.ref.injEq, DO.lst.injEq, and_true, true_and, and_false, false_and, exists_false, exists_const, List.getElem?_cons_zero, List.getElem?_cons_succ, List.map_cons, List.map_nil, List.length_cons, List.length_nil, List.replicate_zero, List.replicate_succ, List.append_nil, List.cons_append, List.nil_append, List.set_cons_zero, List.set_cons_succ, Nat.reduceAdd, Nat.reduceSub, Nat.zero_add, reduceIte, Bool.false_eq_true, reduceCtorEq, if_true, if_false, Bool.not_true, Bool.not_false, exists_and_left, Bool.true_xor, Bool.false_xor, dDGet, dDIn, dDNewK, dDNewT, sDPutD, dKyE, dKyT, keyD]
  refine ⟨d, rfl, htd, fun hok => ?_, fun h => endX (q1 h)⟩
  obtain ⟨as, rfl, a1, a2, ann⟩ := ans_ints hok
  have q := q2 as rfl hok
  have hP : PlayAt rows tb pl as := ⟨hg, hrl, htb, a1, a2, ann⟩
  clear q1 q2 htd
  simp only [d_table_play_t3, dVar, dC, dOp, dUn, dNil, dCons, dTup, dLst, dCB, dTest, dAnd, dOr, dNot, dAndV, dOrV, dNotV, dIfE, dChain, sNext, sSeq, sBreak, sCont, sDrop, sRet, sRetN, sIf, gdName, gdNil, gdCons, gdTup, gdSub, sAsg, dCall, xOf, sFor, dSeq, dRng1, dRng2, dI, dI0, dB0, dAdd, dIsN, dNotN, isNon, dIx, dSetL, dNeg, one, two, dLen1, dListOf1, dTupOf1, dAbs1, dIntOf1, dII, marg, dAppend1, dExtend1, dIsi, isA, dSl, dPart, dNoPart, dCut, dLc, dYes, sRaise, sTry, exBy, sPar2, sPar3, dIsBl, dNotBl, dBM, dBM0, dEq, dNe, dIn, dSgn, dIsiT2, isAny, dLenSet, dLstL, dOfE, dIxL, dCon, fLen, fTup, fSum, fMax, fMin, fAll, fAny, dEqLL, dNeLL, dLenSetL, dRefL, sTryN, exByN, goneD, withD, dXf, sRaiseF, dLc2, dEnum, dListRg1, dListRg2, dTupRg1, dTupRg2, dStrOf1, dRep, dstart, fnE_nx, fnE_rt, fnE_ex, Nat.zero_le, Nat.reduceLeDiff, decide_true, decide_false, true_or, or_true, false_or, or_false, decide_eq_true_eq, exists_eq_left', exists_eq_left, exists_eq_right, exists_eq_right', Option.some.injEq, List.cons.injEq, D.int.injEq, D.bl.injEq, D.str.injEq, D.tup.injEq, D.lro.injEq, D.ref.injEq, DO.lst.injEq, and_true, true_and, and_false, false_and, exists_false, exists_const, List.getElem?_cons_zero, List.getElem?_cons_succ, List.map_cons, List.map_nil, List.length_cons, List.length_nil, List.replicate_zero, List.replicate_succ, List.append_nil, List.cons_append, List.nil_append, List.set_cons_zero, List.set_cons_succ, Nat.reduceAdd, Nat.reduceSub, Nat.zero_add, reduceIte, Bool.false_eq_true, reduceCtorEq, if_true, if_false, Bool.not_true, Bool.not_false, exists_and_left, Bool.true_xor, Bool.false_xor, dDGet, dDIn, dDNewK, dDNewT, sDPutD, dKyE, dKyT, keyD]
  intro p hp w hw
  have hne : p ≠ w := fresh_ne updD_same hw
  simp only [d_table_play_t4, dVar, dC, dOp, dUn, dNil, dCons, dTup, dLst, dCB, dTest, dAnd, dOr, dNot, dAndV, dOrV, dNotV, dIfE, dChain, sNext, sSeq, sBreak, sCont, sDrop, sRet, sRetN, sIf, gdName, gdNil, gdCons, gdTup, gdSub, sAsg, dCall, xOf, sFor, dSeq, dRng1, dRng2, dI, dI0, dB0, dAdd, dIsN, dNotN, isNon, dIx, dSetL, dNeg, one, two, dLen1, dListOf1, dTupOf1, dAbs1, dIntOf1, dII, marg, dAppend1, dExtend1, dIsi, isA, dSl, dPart, dNoPart, dCut, dLc, dYes, sRaise, sTry, exBy, sPar2, sPar3, dIsBl, dNotBl, dBM, dBM0, dEq, dNe, dIn, dSgn, dIsiT2, isAny, dLenSet, dLstL, dOfE, dIxL, dCon, fLen, fTup, fSum, fMax, fMin, fAll, fAny, dEqLL, dNeLL, dLenSetL, dRefL, sTryN, exByN, goneD, withD, dXf, sRaiseF, dLc2, dEnum, dListRg1, dListRg2, dTupRg1, dTupRg2, dStrOf1, dRep, dstart, fnE_nx, fnE_rt, fnE_ex, Nat.zero_le, Nat.reduceLeDiff, decide_true, decide_false, true_or, or_true, false_or, or_false, decide_eq_true_eq, exists_eq_left', exists_eq_left, exists_eq_right, exists_eq_right', Option.some.injEq, List.cons.injEq, D.int.injEq, D.bl.injEq, D.str.injEq, D.tup.injEq, D.lro.injEq, D.ref.injEq, DO.lst.injEq, and_true, true_and, and_false, false_and, exists_false, exists_const, List.getElem?_cons_zero, List.getElem?_cons_succ, List.map_cons, List.map_nil, List.length_cons, List.length_nil, List.replicate_zero, List.replicate_succ, List.append_nil, List.cons_append, List.nil_append, List.set_cons_zero, List.set_cons_succ, Nat.reduceAdd, Nat.reduceSub, Nat.zero_add, reduceIte, Bool.false_eq_true, reduceCtorEq, if_true, if_false, Bool.not_true, Bool.not_false, exists_and_left, Bool.true_xor, Bool.false_xor, dDGet, dDIn, dDNewK, dDNewT, sDPutD, dKyE, dKyT, keyD]
  have hwL : L w = none := by rw [updD_ne (Ne.symm hne)] at hw; exact hw
  refine ⟨PlayJ rows tb pl as start p w L, ⟨fuelP rows as, [], start, 0, _, _, _, by simp, List.nodup_nil, (fun x h => by cases h), ⟨s0, s1, by show (0 : Int) ≤ 0; decide, by have := hP.a1; show (0 : Int) < as.length; omega⟩, (Le.upd hp).trans (Le.upd hw), by rw [updD_ne hne, updD_same]; rfl, updD_same, rfl, rfl⟩, ?_⟩
  rintro m s L' ⟨met, v, k, o10, o11, o12, hm, hnd, hin, hvk, hle, hpp, hww, hr, rfl⟩
  have hml := met_len hnd hin
  obtain ⟨v0, v1, k0, k1⟩ := id hvk
  have v0 : 0 ≤ v := v0
  have v1 : v < rows.length := v1
  have k0 : 0 ≤ k := k0
  have k1 : k < as.length := k1
  have hfl : fuelP rows as = rows.length * as.length + 1 := rfl
  obtain ⟨m, rfl⟩ : ∃ m', m = m' + 1 := ⟨m - 1, by omega⟩
  have hmx : met.length ≤ 1000000 := by
    have h1 := hP.len
    have h2 := hP.a2
    have : rows.length * as.length ≤ 1000 * 1000 := Nat.mul_le_mul h1 h2
    omega
  have hnext : ∀ (v' k' : Int) (o10 o11 o12 : Option D) (L'' : DH), (v, k) ∉ met → InP rows.length as.length (v', k') → Le L L'' → L'' p = some (.dtp (metD 0 (met ++ [(v, k)]))) → L'' w = some (.lst (wayD (met ++ [(v, k)]))) → playF rows tb pl as (m + 1) met v k = playF rows tb pl as m (met ++ [(v, k)]) v' k' →
      ∃ m', m' < m + 1 ∧ PlayJ rows tb pl as start p w L m' [some (.tup rows), some (.int pl), some (.tup tb), some (.int start), some (.tup (as.map .int)), none, some (.ref p), some (.ref w), some (.int v'), some (.int k'), o10, o11, o12] L'' :=
    fun v' k' o10 o11 o12 L'' hn h1 h2 h3 h4 h5 => ⟨m, by omega, met ++ [(v, k)], v', k', o10, o11, o12, by rw [List.length_append, List.length_singleton]; omega,
      List.nodup_append.mpr ⟨hnd, by simp, by simpa using fun a b hab e1 e2 => hn (by rw [← e1, ← e2]; exact hab)⟩, (fun x hx => by
        rcases List.mem_append.mp hx with h | h
        · exact hin x h
        · rw [List.mem_singleton.mp h]; exact hvk), h1, h2, h3, h4, hr.trans h5, rfl⟩
  simp only [dVar, dC, dOp, dUn, dNil, dCons, dTup, dLst, dCB, dTest, dAnd, dOr, dNot, dAndV, dOrV, dNotV, dIfE, dChain, sNext, sSeq, sBreak, sCont, sDrop, sRet, sRetN, sIf, gdName, gdNil, gdCons, gdTup, gdSub, sAsg, dCall, xOf, sFor, dSeq, dRng1, dRng2, dI, dI0, dB0, dAdd, dIsN, dNotN, isNon, dIx, dSetL, dNeg, one, two, dLen1, dListOf1, dTupOf1, dAbs1, dIntOf1, dII, marg, dAppend1, dExtend1, dIsi, isA, dSl, dPart, dNoPart, dCut, dLc, dYes, sRaise, sTry, exBy, sPar2, sPar3, dIsBl, dNotBl, dBM, dBM0, dEq, dNe, dIn, dSgn, dIsiT2, isAny, dLenSet, dLstL, dOfE, dIxL, dCon, fLen, fTup, fSum, fMax, fMin, fAll, fAny, dEqLL, dNeLL, dLenSetL, dRefL, sTryN, exByN, goneD, withD, dXf, sRaiseF, dLc2, dEnum, dListRg1, dListRg2, dTupRg1, dTupRg2, dStrOf1, dRep, dstart, fnE_nx, fnE_rt, fnE_ex, Nat.zero_le, Nat.reduceLeDiff, decide_true, decide_false, true_or, or_true, false_or, or_false, decide_eq_true_eq, exists_eq_left', exists_eq_left, exists_eq_right, exists_eq_right', Option.some.injEq, List.cons.injEq, D.int.injEq, D.bl.injEq, D.str.injEq, D.tup.injEq, D.lro.injEq, D.ref.injEq, DO.lst.injEq, and_true, true_and, and_false, false_and, exists_false, exists_const, List.getElem?_cons_zero, List.getElem?_cons_succ, List.map_cons, List.map_nil, List.length_cons, List.length_nil, List.replicate_zero, List.replicate_succ, List.append_nil, List.cons_append, List.nil_append, List.set_cons_zero, List.set_cons_succ, Nat.reduceAdd, Nat.reduceSub, Nat.zero_add, reduceIte, Bool.false_eq_true, reduceCtorEq, if_true, if_false, Bool.not_true, Bool.not_false, exists_and_left, Bool.true_xor, Bool.false_xor, dDGet, dDIn, dDNewK, dDNewT, sDPutD, dKyE, dKyT, keyD]
  refine ⟨_, keys_pv v k, _, getK_met hpp v k, ?_⟩
  by_cases hmem : (v, k) ∈ met
  · rw [if_pos hmem]
    simp only [Option.isSome_some, dVar, dC, dOp, dUn, dNil, dCons, dTup, dLst, dCB, dTest, dAnd, dOr, dNot, dAndV, dOrV, dNotV, dIfE, dChain, sNext, sSeq, sBreak, sCont, sDrop, sRet, sRetN, sIf, gdName, gdNil, gdCons, gdTup, gdSub, sAsg, dCall, xOf, sFor, dSeq, dRng1, dRng2, dI, dI0, dB0, dAdd, dIsN, dNotN, isNon, dIx, dSetL, dNeg, one, two, dLen1, dListOf1, dTupOf1, dAbs1, dIntOf1, dII, marg, dAppend1, dExtend1, dIsi, isA, dSl, dPart, dNoPart, dCut, dLc, dYes, sRaise, sTry, exBy, sPar2, sPar3, dIsBl, dNotBl, dBM, dBM0, dEq, dNe, dIn, dSgn, dIsiT2, isAny, dLenSet, dLstL, dOfE, dIxL, dCon, fLen, fTup, fSum, fMax, fMin, fAll, fAny, dEqLL, dNeLL, dLenSetL, dRefL, sTryN, exByN, goneD, withD, dXf, sRaiseF, dLc2, dEnum, dListRg1, dListRg2, dTupRg1, dTupRg2, dStrOf1, dRep, dstart, fnE_nx, fnE_rt, fnE_ex, Nat.zero_le, Nat.reduceLeDiff, decide_true, decide_false, true_or, or_true, false_or, or_false, decide_eq_true_eq, exists_eq_left', exists_eq_left, exists_eq_right, exists_eq_right', Option.some.injEq, List.cons.injEq, D.int.injEq, D.bl.injEq, D.str.injEq, D.tup.injEq, D.lro.injEq, D.ref.injEq, DO.lst.injEq, and_true, true_and, and_false, false_and, exists_false, exists_const, List.getElem?_cons_zero, List.getElem?_cons_succ, List.map_cons, List.map_nil, List.length_cons, List.length_nil, List.replicate_zero, List.replicate_succ, List.append_nil, List.cons_append, List.nil_append, List.set_cons_zero, List.set_cons_succ, Nat.reduceAdd, Nat.reduceSub, Nat.zero_add, reduceIte, Bool.false_eq_true, reduceCtorEq, if_true, if_false, Bool.not_true, Bool.not_false, exists_and_left, Bool.true_xor, Bool.false_xor, dDGet, dDIn, dDNewK, dDNewT, sDPutD, dKyE, dKyT, keyD]
    have hpf : playF rows tb pl as (m + 1) met v k = .tup [.tup (wayD (met.take (met.idxOf (v, k)))), .tup (wayD (met.drop (met.idxOf (v, k))))] := by
      show (if (v, k) ∈ met then _ else _) = _
      rw [if_pos hmem]
    simp only [d_table_play_t5, dVar, dC, dOp, dUn, dNil, dCons, dTup, dLst, dCB, dTest, dAnd, dOr, dNot, dAndV, dOrV, dNotV, dIfE, dChain, sNext, sSeq, sBreak, sCont, sDrop, sRet, sRetN, sIf, gdName, gdNil, gdCons, gdTup, gdSub, sAsg, dCall, xOf, sFor, dSeq, dRng1, dRng2, dI, dI0, dB0, dAdd, dIsN, dNotN, isNon, dIx, dSetL, dNeg, one, two, dLen1, dListOf1, dTupOf1, dAbs1, dIntOf1, dII, marg, dAppend1, dExtend1, dIsi, isA, dSl, dPart, dNoPart, dCut, dLc, dYes, sRaise, sTry, exBy, sPar2, sPar3, dIsBl, dNotBl, dBM, dBM0, dEq, dNe, dIn, dSgn, dIsiT2, isAny, dLenSet, dLstL, dOfE, dIxL, dCon, fLen, fTup, fSum, fMax, fMin, fAll, fAny, dEqLL, dNeLL, dLenSetL, dRefL, sTryN, exByN, goneD, withD, dXf, sRaiseF, dLc2, dEnum, dListRg1, dListRg2, dTupRg1, dTupRg2, dStrOf1, dRep, dstart, fnE_nx, fnE_rt, fnE_ex, Nat.zero_le, Nat.reduceLeDiff, decide_true, decide_false, true_or, or_true, false_or, or_false, decide_eq_true_eq, exists_eq_left', exists_eq_left, exists_eq_right, exists_eq_right', Option.some.injEq, List.cons.injEq, D.int.injEq, D.bl.injEq, D.str.injEq, D.tup.injEq, D.lro.injEq, D.ref.injEq, DO.lst.injEq, and_true, true_and, and_false, false_and, exists_false, exists_const, List.getElem?_cons_zero, List.getElem?_cons_succ, List.map_cons, List.map_nil, List.length_cons, List.length_nil, List.replicate_zero, List.replicate_succ, List.append_nil, List.cons_append, List.nil_append, List.set_cons_zero, List.set_cons_succ, Nat.reduceAdd, Nat.reduceSub, Nat.zero_add, reduceIte, Bool.false_eq_true, reduceCtorEq, if_true, if_false, Bool.not_true, Bool.not_false, exists_and_left, Bool.true_xor, Bool.false_xor, dDGet, dDIn, dDNewK, dDNewT, sDPutD, dKyE, dKyT, keyD]
    refine ⟨_, keys_pv v k, _, by rw [getK_met hpp v k, if_pos hmem], ?_⟩
    simp only [d_table_play_t6, dVar, dC, dOp, dUn, dNil, dCons, dTup, dLst, dCB, dTest, dAnd, dOr, dNot, dAndV, dOrV, dNotV, dIfE, dChain, sNext, sSeq, sBreak, sCont, sDrop, sRet, sRetN, sIf, gdName, gdNil, gdCons, gdTup, gdSub, sAsg, dCall, xOf, sFor, dSeq, dRng1, dRng2, dI, dI0, dB0, dAdd, dIsN, dNotN, isNon, dIx, dSetL, dNeg, one, two, dLen1, dListOf1, dTupOf1, dAbs1, dIntOf1, dII, marg, dAppend1, dExtend1, dIsi, isA, dSl, dPart, dNoPart, dCut, dLc, dYes, sRaise, sTry, exBy, sPar2, sPar3, dIsBl, dNotBl, dBM, dBM0, dEq, dNe, dIn, dSgn, dIsiT2, isAny, dLenSet, dLstL, dOfE, dIxL, dCon, fLen, fTup, fSum, fMax, fMin, fAll, fAny, dEqLL, dNeLL, dLenSetL, dRefL, sTryN, exByN, goneD, withD, dXf, sRaiseF, dLc2, dEnum, dListRg1, dListRg2, dTupRg1, dTupRg2, dStrOf1, dRep, dstart, fnE_nx, fnE_rt, fnE_ex, Nat.zero_le, Nat.reduceLeDiff, decide_true, decide_false, true_or, or_true, false_or, or_false, decide_eq_true_eq, exists_eq_left', exists_eq_left, exists_eq_right, exists_eq_right', Option.some.injEq, List.cons.injEq, D.int.injEq, D.bl.injEq, D.str.injEq, D.tup.injEq, D.lro.injEq, D.ref.injEq, DO.lst.injEq, and_true, true_and, and_false, false_and, exists_false, exists_const, List.getElem?_cons_zero, List.getElem?_cons_succ, List.map_cons, List.map_nil, List.length_cons, List.length_nil, List.replicate_zero, List.replicate_succ, List.append_nil, List.cons_append, List.nil_append, List.set_cons_zero, List.set_cons_succ, Nat.reduceAdd, Nat.reduceSub, Nat.zero_add, reduceIte, Bool.false_eq_true, reduceCtorEq, if_true, if_false, Bool.not_true, Bool.not_false, exists_and_left, Bool.true_xor, Bool.false_xor, dDGet, dDIn, dDNewK, dDNewT, sDPutD, dKyE, dKyT, keyD]
    refine ⟨_, hww, fun p1 hp1 => ?_⟩
    have g1 : upd L' p1 (.lst (cut (wayD met) none (some ((met.idxOf (v, k) : Nat) : Int)))) w = some (.lst (wayD met)) := by rw [updD_ne (fresh_ne hww hp1)]; exact hww
    refine ⟨_, updD_same, _, g1, fun p2 hp2 => ⟨_, updD_same, ?_⟩⟩
    have lep := hle.trans ((Le.upd hp1).trans (Le.upd (o := .lst (cut (wayD met) (some ((met.idxOf (v, k) : Nat) : Int)) none)) hp2))
    generalize upd (upd L' p1 (.lst (cut (wayD met) none (some ((met.idxOf (v, k) : Nat) : Int))))) p2 (.lst (cut (wayD met) (some ((met.idxOf (v, k) : Nat) : Int)) none)) = LL at lep
    rw [cut_to (by omega), cut_from (by omega), Int.toNat_natCast]
    have e1 : (wayD met).take (met.idxOf (v, k)) = wayD (met.take (met.idxOf (v, k))) := by unfold wayD; rw [List.map_take]
    have e2 : (wayD met).drop (met.idxOf (v, k)) = wayD (met.drop (met.idxOf (v, k))) := by unfold wayD; rw [List.map_drop]
    rw [e1, e2, ← hpf, ← hr]
    exact ⟨L, lep, q⟩
  · rw [if_neg hmem]
    simp only [Option.isSome_none, dVar, dC, dOp, dUn, dNil, dCons, dTup, dLst, dCB, dTest, dAnd, dOr, dNot, dAndV, dOrV, dNotV, dIfE, dChain, sNext, sSeq, sBreak, sCont, sDrop, sRet, sRetN, sIf, gdName, gdNil, gdCons, gdTup, gdSub, sAsg, dCall, xOf, sFor, dSeq, dRng1, dRng2, dI, dI0, dB0, dAdd, dIsN, dNotN, isNon, dIx, dSetL, dNeg, one, two, dLen1, dListOf1, dTupOf1, dAbs1, dIntOf1, dII, marg, dAppend1, dExtend1, dIsi, isA, dSl, dPart, dNoPart, dCut, dLc, dYes, sRaise, sTry, exBy, sPar2, sPar3, dIsBl, dNotBl, dBM, dBM0, dEq, dNe, dIn, dSgn, dIsiT2, isAny, dLenSet, dLstL, dOfE, dIxL, dCon, fLen, fTup, fSum, fMax, fMin, fAll, fAny, dEqLL, dNeLL, dLenSetL, dRefL, sTryN, exByN, goneD, withD, dXf, sRaiseF, dLc2, dEnum, dListRg1, dListRg2, dTupRg1, dTupRg2, dStrOf1, dRep, dstart, fnE_nx, fnE_rt, fnE_ex, Nat.zero_le, Nat.reduceLeDiff, decide_true, decide_false, true_or, or_true, false_or, or_false, decide_eq_true_eq, exists_eq_left', exists_eq_left, exists_eq_right, exists_eq_right', Option.some.injEq, List.cons.injEq, D.int.injEq, D.bl.injEq, D.str.injEq, D.tup.injEq, D.lro.injEq, D.ref.injEq, DO.lst.injEq, and_true, true_and, and_false, false_and, exists_false, exists_const, List.getElem?_cons_zero, List.getElem?_cons_succ, List.map_cons, List.map_nil, List.length_cons, List.length_nil, List.replicate_zero, List.replicate_succ, List.append_nil, List.cons_append, List.nil_append, List.set_cons_zero, List.set_cons_succ, Nat.reduceAdd, Nat.reduceSub, Nat.zero_add, reduceIte, Bool.false_eq_true, reduceCtorEq, if_true, if_false, Bool.not_true, Bool.not_false, exists_and_left, Bool.true_xor, Bool.false_xor, dDGet, dDIn, dDNewK, dDNewT, sDPutD, dKyE, dKyT, keyD]
    have hwl : (wayD met).length = met.length := by unfold wayD; rw [List.length_map]
    simp only [d_table_play_b4, dVar, dC, dOp, dUn, dNil, dCons, dTup, dLst, dCB, dTest, dAnd, dOr, dNot, dAndV, dOrV, dNotV, dIfE, dChain, sNext, sSeq, sBreak, sCont, sDrop, sRet, sRetN, sIf, gdName, gdNil, gdCons, gdTup, gdSub, sAsg, dCall, xOf, sFor, dSeq, dRng1, dRng2, dI, dI0, dB0, dAdd, dIsN, dNotN, isNon, dIx, dSetL, dNeg, one, two, dLen1, dListOf1, dTupOf1, dAbs1, dIntOf1, dII, marg, dAppend1, dExtend1, dIsi, isA, dSl, dPart, dNoPart, dCut, dLc, dYes, sRaise, sTry, exBy, sPar2, sPar3, dIsBl, dNotBl, dBM, dBM0, dEq, dNe, dIn, dSgn, dIsiT2, isAny, dLenSet, dLstL, dOfE, dIxL, dCon, fLen, fTup, fSum, fMax, fMin, fAll, fAny, dEqLL, dNeLL, dLenSetL, dRefL, sTryN, exByN, goneD, withD, dXf, sRaiseF, dLc2, dEnum, dListRg1, dListRg2, dTupRg1, dTupRg2, dStrOf1, dRep, dstart, fnE_nx, fnE_rt, fnE_ex, Nat.zero_le, Nat.reduceLeDiff, decide_true, decide_false, true_or, or_true, false_or, or_false, decide_eq_true_eq, exists_eq_left', exists_eq_left, exists_eq_right, exists_eq_right', Option.some.injEq, List.cons.injEq, D.int.injEq, D.bl.injEq, D.str.injEq, D.tup.injEq, D.lro.injEq, D.ref.injEq, DO.lst.injEq, and_true, true_and, and_false, false_and, exists_false, exists_const, List.getElem?_cons_zero, List.getElem?_cons_succ, List.map_cons, List.map_nil, List.length_cons, List.length_nil, List.replicate_zero, List.replicate_succ, List.append_nil, List.cons_append, List.nil_append, List.set_cons_zero, List.set_cons_succ, Nat.reduceAdd, Nat.reduceSub, Nat.zero_add, reduceIte, Bool.false_eq_true, reduceCtorEq, if_true, if_false, Bool.not_true, Bool.not_false, exists_and_left, Bool.true_xor, Bool.false_xor, dDGet, dDIn, dDNewK, dDNewT, sDPutD, dKyE, dKyT, keyD]
    refine ⟨_, hww, _, keys_pv v k, putKD_met hpp (by rw [metD_len]; omega) ?_⟩
    rw [hwl, metD_put hmem]
    have g1 : upd L' p (.dtp (metD 0 (met ++ [(v, k)]))) w = some (.lst (wayD met)) := by rw [updD_ne (Ne.symm hne)]; exact hww
    have le1 := le_own2 (o := .dtp (metD 0 (met ++ [(v, k)]))) hle hp
    have g2 : upd L' p (.dtp (metD 0 (met ++ [(v, k)]))) p = some (.dtp (metD 0 (met ++ [(v, k)]))) := updD_same
    generalize upd L' p (.dtp (metD 0 (met ++ [(v, k)]))) = L1 at g1 le1 g2
    simp only [d_table_play_t4b1, dVar, dC, dOp, dUn, dNil, dCons, dTup, dLst, dCB, dTest, dAnd, dOr, dNot, dAndV, dOrV, dNotV, dIfE, dChain, sNext, sSeq, sBreak, sCont, sDrop, sRet, sRetN, sIf, gdName, gdNil, gdCons, gdTup, gdSub, sAsg, dCall, xOf, sFor, dSeq, dRng1, dRng2, dI, dI0, dB0, dAdd, dIsN, dNotN, isNon, dIx, dSetL, dNeg, one, two, dLen1, dListOf1, dTupOf1, dAbs1, dIntOf1, dII, marg, dAppend1, dExtend1, dIsi, isA, dSl, dPart, dNoPart, dCut, dLc, dYes, sRaise, sTry, exBy, sPar2, sPar3, dIsBl, dNotBl, dBM, dBM0, dEq, dNe, dIn, dSgn, dIsiT2, isAny, dLenSet, dLstL, dOfE, dIxL, dCon, fLen, fTup, fSum, fMax, fMin, fAll, fAny, dEqLL, dNeLL, dLenSetL, dRefL, sTryN, exByN, goneD, withD, dXf, sRaiseF, dLc2, dEnum, dListRg1, dListRg2, dTupRg1, dTupRg2, dStrOf1, dRep, dstart, fnE_nx, fnE_rt, fnE_ex, Nat.zero_le, Nat.reduceLeDiff, decide_true, decide_false, true_or, or_true, false_or, or_false, decide_eq_true_eq, exists_eq_left', exists_eq_left, exists_eq_right, exists_eq_right', Option.some.injEq, List.cons.injEq, D.int.injEq, D.bl.injEq, D.str.injEq, D.tup.injEq, D.lro.injEq, D.ref.injEq, DO.lst.injEq, and_true, true_and, and_false, false_and, exists_false, exists_const, List.getElem?_cons_zero, List.getElem?_cons_succ, List.map_cons, List.map_nil, List.length_cons, List.length_nil, List.replicate_zero, List.replicate_succ, List.append_nil, List.cons_append, List.nil_append, List.set_cons_zero, List.set_cons_succ, Nat.reduceAdd, Nat.reduceSub, Nat.zero_add, reduceIte, Bool.false_eq_true, reduceCtorEq, if_true, if_false, Bool.not_true, Bool.not_false, exists_and_left, Bool.true_xor, Bool.false_xor, dDGet, dDIn, dDNewK, dDNewT, sDPutD, dKyE, dKyT, keyD]
    refine ⟨⟨_, lstOf_ref g1⟩, _, g1, by omega, ?_⟩
    have ew : wayD met ++ [.int v] = wayD (met ++ [(v, k)]) := by unfold wayD; rw [List.map_append]; rfl
    rw [ew]
    have le2 := le_own2 (o := .lst (wayD (met ++ [(v, k)]))) le1 hwL
    have g3 : upd L1 w (.lst (wayD (met ++ [(v, k)]))) p = some (.dtp (metD 0 (met ++ [(v, k)]))) := by rw [updD_ne hne]; exact g2
    have g4 : upd L1 w (.lst (wayD (met ++ [(v, k)]))) w = some (.lst (wayD (met ++ [(v, k)]))) := updD_same
    generalize upd L1 w (.lst (wayD (met ++ [(v, k)]))) = L2 at le2 g3 g4
    obtain ⟨hat, o0, o1, n1, n2, hnx⟩ := game_at2 hP.g v0 v1
    simp only [d_table_play_t4b2, dVar, dC, dOp, dUn, dNil, dCons, dTup, dLst, dCB, dTest, dAnd, dOr, dNot, dAndV, dOrV, dNotV, dIfE, dChain, sNext, sSeq, sBreak, sCont, sDrop, sRet, sRetN, sIf, gdName, gdNil, gdCons, gdTup, gdSub, sAsg, dCall, xOf, sFor, dSeq, dRng1, dRng2, dI, dI0, dB0, dAdd, dIsN, dNotN, isNon, dIx, dSetL, dNeg, one, two, dLen1, dListOf1, dTupOf1, dAbs1, dIntOf1, dII, marg, dAppend1, dExtend1, dIsi, isA, dSl, dPart, dNoPart, dCut, dLc, dYes, sRaise, sTry, exBy, sPar2, sPar3, dIsBl, dNotBl, dBM, dBM0, dEq, dNe, dIn, dSgn, dIsiT2, isAny, dLenSet, dLstL, dOfE, dIxL, dCon, fLen, fTup, fSum, fMax, fMin, fAll, fAny, dEqLL, dNeLL, dLenSetL, dRefL, sTryN, exByN, goneD, withD, dXf, sRaiseF, dLc2, dEnum, dListRg1, dListRg2, dTupRg1, dTupRg2, dStrOf1, dRep, dstart, fnE_nx, fnE_rt, fnE_ex, Nat.zero_le, Nat.reduceLeDiff, decide_true, decide_false, true_or, or_true, false_or, or_false, decide_eq_true_eq, exists_eq_left', exists_eq_left, exists_eq_right, exists_eq_right', Option.some.injEq, List.cons.injEq, D.int.injEq, D.bl.injEq, D.str.injEq, D.tup.injEq, D.lro.injEq, D.ref.injEq, DO.lst.injEq, and_true, true_and, and_false, false_and, exists_false, exists_const, List.getElem?_cons_zero, List.getElem?_cons_succ, List.map_cons, List.map_nil, List.length_cons, List.length_nil, List.replicate_zero, List.replicate_succ, List.append_nil, List.cons_append, List.nil_append, List.set_cons_zero, List.set_cons_succ, Nat.reduceAdd, Nat.reduceSub, Nat.zero_add, reduceIte, Bool.false_eq_true, reduceCtorEq, if_true, if_false, Bool.not_true, Bool.not_false, exists_and_left, Bool.true_xor, Bool.false_xor, dDGet, dDIn, dDNewK, dDNewT, sDPutD, dKyE, dKyT, keyD]
    refine ⟨_, hat, ?_⟩
    simp only [dVar, dC, dOp, dUn, dNil, dCons, dTup, dLst, dCB, dTest, dAnd, dOr, dNot, dAndV, dOrV, dNotV, dIfE, dChain, sNext, sSeq, sBreak, sCont, sDrop, sRet, sRetN, sIf, gdName, gdNil, gdCons, gdTup, gdSub, sAsg, dCall, xOf, sFor, dSeq, dRng1, dRng2, dI, dI0, dB0, dAdd, dIsN, dNotN, isNon, dIx, dSetL, dNeg, one, two, dLen1, dListOf1, dTupOf1, dAbs1, dIntOf1, dII, marg, dAppend1, dExtend1, dIsi, isA, dSl, dPart, dNoPart, dCut, dLc, dYes, sRaise, sTry, exBy, sPar2, sPar3, dIsBl, dNotBl, dBM, dBM0, dEq, dNe, dIn, dSgn, dIsiT2, isAny, dLenSet, dLstL, dOfE, dIxL, dCon, fLen, fTup, fSum, fMax, fMin, fAll, fAny, dEqLL, dNeLL, dLenSetL, dRefL, sTryN, exByN, goneD, withD, dXf, sRaiseF, dLc2, dEnum, dListRg1, dListRg2, dTupRg1, dTupRg2, dStrOf1, dRep, dstart, fnE_nx, fnE_rt, fnE_ex, Nat.zero_le, Nat.reduceLeDiff, decide_true, decide_false, true_or, or_true, false_or, or_false, decide_eq_true_eq, exists_eq_left', exists_eq_left, exists_eq_right, exists_eq_right', Option.some.injEq, List.cons.injEq, D.int.injEq, D.bl.injEq, D.str.injEq, D.tup.injEq, D.lro.injEq, D.ref.injEq, DO.lst.injEq, and_true, true_and, and_false, false_and, exists_false, exists_const, List.getElem?_cons_zero, List.getElem?_cons_succ, List.map_cons, List.map_nil, List.length_cons, List.length_nil, List.replicate_zero, List.replicate_succ, List.append_nil, List.cons_append, List.nil_append, List.set_cons_zero, List.set_cons_succ, Nat.reduceAdd, Nat.reduceSub, Nat.zero_add, reduceIte, Bool.false_eq_true, reduceCtorEq, if_true, if_false, Bool.not_true, Bool.not_false, exists_and_left, Bool.true_xor, Bool.false_xor, dDGet, dDIn, dDNewK, dDNewT, sDPutD, dKyE, dKyT, keyD]
    simp only [d_table_play_t4b3, dVar, dC, dOp, dUn, dNil, dCons, dTup, dLst, dCB, dTest, dAnd, dOr, dNot, dAndV, dOrV, dNotV, dIfE, dChain, sNext, sSeq, sBreak, sCont, sDrop, sRet, sRetN, sIf, gdName, gdNil, gdCons, gdTup, gdSub, sAsg, dCall, xOf, sFor, dSeq, dRng1, dRng2, dI, dI0, dB0, dAdd, dIsN, dNotN, isNon, dIx, dSetL, dNeg, one, two, dLen1, dListOf1, dTupOf1, dAbs1, dIntOf1, dII, marg, dAppend1, dExtend1, dIsi, isA, dSl, dPart, dNoPart, dCut, dLc, dYes, sRaise, sTry, exBy, sPar2, sPar3, dIsBl, dNotBl, dBM, dBM0, dEq, dNe, dIn, dSgn, dIsiT2, isAny, dLenSet, dLstL, dOfE, dIxL, dCon, fLen, fTup, fSum, fMax, fMin, fAll, fAny, dEqLL, dNeLL, dLenSetL, dRefL, sTryN, exByN, goneD, withD, dXf, sRaiseF, dLc2, dEnum, dListRg1, dListRg2, dTupRg1, dTupRg2, dStrOf1, dRep, dstart, fnE_nx, fnE_rt, fnE_ex, Nat.zero_le, Nat.reduceLeDiff, decide_true, decide_false, true_or, or_true, false_or, or_false, decide_eq_true_eq, exists_eq_left', exists_eq_left, exists_eq_right, exists_eq_right', Option.some.injEq, List.cons.injEq, D.int.injEq, D.bl.injEq, D.str.injEq, D.tup.injEq, D.lro.injEq, D.ref.injEq, DO.lst.injEq, and_true, true_and, and_false, false_and, exists_false, exists_const, List.getElem?_cons_zero, List.getElem?_cons_succ, List.map_cons, List.map_nil, List.length_cons, List.length_nil, List.replicate_zero, List.replicate_succ, List.append_nil, List.cons_append, List.nil_append, List.set_cons_zero, List.set_cons_succ, Nat.reduceAdd, Nat.reduceSub, Nat.zero_add, reduceIte, Bool.false_eq_true, reduceCtorEq, if_true, if_false, Bool.not_true, Bool.not_false, exists_and_left, Bool.true_xor, Bool.false_xor, dDGet, dDIn, dDNewK, dDNewT, sDPutD, dKyE, dKyT, keyD, eqD_int]
    have hpf : playF rows tb pl as (m + 1) met v k = (if rowOw rows v = pl then (match tb.getD v.toNat .non with
      | .int x => playF rows tb pl as m (met ++ [(v, k)]) x k
      | _ => .tup [.tup (wayD (met ++ [(v, k)])), .tup []])
      else playF rows tb pl as m (met ++ [(v, k)]) (nextW rows as v k) ((k + 1) % as.length)) := by
      show (if (v, k) ∈ met then _ else _) = _
      rw [if_neg hmem]
    by_cases ho : rowOw rows v = pl
    · have hbo : (rowOw rows v == pl) = true := beq_iff_eq.mpr ho
      rw [hbo]
      simp only [dVar, dC, dOp, dUn, dNil, dCons, dTup, dLst, dCB, dTest, dAnd, dOr, dNot, dAndV, dOrV, dNotV, dIfE, dChain, sNext, sSeq, sBreak, sCont, sDrop, sRet, sRetN, sIf, gdName, gdNil, gdCons, gdTup, gdSub, sAsg, dCall, xOf, sFor, dSeq, dRng1, dRng2, dI, dI0, dB0, dAdd, dIsN, dNotN, isNon, dIx, dSetL, dNeg, one, two, dLen1, dListOf1, dTupOf1, dAbs1, dIntOf1, dII, marg, dAppend1, dExtend1, dIsi, isA, dSl, dPart, dNoPart, dCut, dLc, dYes, sRaise, sTry, exBy, sPar2, sPar3, dIsBl, dNotBl, dBM, dBM0, dEq, dNe, dIn, dSgn, dIsiT2, isAny, dLenSet, dLstL, dOfE, dIxL, dCon, fLen, fTup, fSum, fMax, fMin, fAll, fAny, dEqLL, dNeLL, dLenSetL, dRefL, sTryN, exByN, goneD, withD, dXf, sRaiseF, dLc2, dEnum, dListRg1, dListRg2, dTupRg1, dTupRg2, dStrOf1, dRep, dstart, fnE_nx, fnE_rt, fnE_ex, Nat.zero_le, Nat.reduceLeDiff, decide_true, decide_false, true_or, or_true, false_or, or_false, decide_eq_true_eq, exists_eq_left', exists_eq_left, exists_eq_right, exists_eq_right', Option.some.injEq, List.cons.injEq, D.int.injEq, D.bl.injEq, D.str.injEq, D.tup.injEq, D.lro.injEq, D.ref.injEq, DO.lst.injEq, and_true, true_and, and_false, false_and, exists_false, exists_const, List.getElem?_cons_zero, List.getElem?_cons_succ, List.map_cons, List.map_nil, List.length_cons, List.length_nil, List.replicate_zero, List.replicate_succ, List.append_nil, List.cons_append, List.nil_append, List.set_cons_zero, List.set_cons_succ, Nat.reduceAdd, Nat.reduceSub, Nat.zero_add, reduceIte, Bool.false_eq_true, reduceCtorEq, if_true, if_false, Bool.not_true, Bool.not_false, exists_and_left, Bool.true_xor, Bool.false_xor, dDGet, dDIn, dDNewK, dDNewT, sDPutD, dKyE, dKyT, keyD]
      rw [if_pos ho] at hpf
      refine ⟨_, atI_getD v0 (by rw [hP.t.len]; exact v1), ?_⟩
      rcases hP.t.ent v v0 v1 with he | ⟨x, he, hx, _⟩
      · rw [he] at hpf ⊢
        rw [if_pos rfl]
        have hpf : _ = D.tup [.tup (wayD (met ++ [(v, k)])), .tup []] := hpf
        refine ⟨_, g4, L, le2, ?_⟩
        rw [← hpf, ← hr]
        exact q
      · rw [he] at hpf ⊢
        rw [if_neg (by intro h; cases h)]
        have hpf : _ = playF rows tb pl as m (met ++ [(v, k)]) x k := hpf
        obtain ⟨x0, x1⟩ := hnx x hx
        refine ⟨_, (atI_getD v0 (by rw [hP.t.len]; exact v1)).trans (congrArg some he), ?_⟩
        exact hnext x k _ _ _ L2 hmem ⟨x0, x1, k0, k1⟩ le2 g3 g4 hpf
    · have hbo : (rowOw rows v == pl) = false := beq_eq_false_iff_ne.mpr ho
      rw [hbo]
      rw [if_neg ho] at hpf
      simp only [dVar, dC, dOp, dUn, dNil, dCons, dTup, dLst, dCB, dTest, dAnd, dOr, dNot, dAndV, dOrV, dNotV, dIfE, dChain, sNext, sSeq, sBreak, sCont, sDrop, sRet, sRetN, sIf, gdName, gdNil, gdCons, gdTup, gdSub, sAsg, dCall, xOf, sFor, dSeq, dRng1, dRng2, dI, dI0, dB0, dAdd, dIsN, dNotN, isNon, dIx, dSetL, dNeg, one, two, dLen1, dListOf1, dTupOf1, dAbs1, dIntOf1, dII, marg, dAppend1, dExtend1, dIsi, isA, dSl, dPart, dNoPart, dCut, dLc, dYes, sRaise, sTry, exBy, sPar2, sPar3, dIsBl, dNotBl, dBM, dBM0, dEq, dNe, dIn, dSgn, dIsiT2, isAny, dLenSet, dLstL, dOfE, dIxL, dCon, fLen, fTup, fSum, fMax, fMin, fAll, fAny, dEqLL, dNeLL, dLenSetL, dRefL, sTryN, exByN, goneD, withD, dXf, sRaiseF, dLc2, dEnum, dListRg1, dListRg2, dTupRg1, dTupRg2, dStrOf1, dRep, dstart, fnE_nx, fnE_rt, fnE_ex, Nat.zero_le, Nat.reduceLeDiff, decide_true, decide_false, true_or, or_true, false_or, or_false, decide_eq_true_eq, exists_eq_left', exists_eq_left, exists_eq_right, exists_eq_right', Option.some.injEq, List.cons.injEq, D.int.injEq, D.bl.injEq, D.str.injEq, D.tup.injEq, D.lro.injEq, D.ref.injEq, DO.lst.injEq, and_true, true_and, and_false, false_and, exists_false, exists_const, List.getElem?_cons_zero, List.getElem?_cons_succ, List.map_cons, List.map_nil, List.length_cons, List.length_nil, List.replicate_zero, List.replicate_succ, List.append_nil, List.cons_append, List.nil_append, List.set_cons_zero, List.set_cons_succ, Nat.reduceAdd, Nat.reduceSub, Nat.zero_add, reduceIte, Bool.false_eq_true, reduceCtorEq, if_true, if_false, Bool.not_true, Bool.not_false, exists_and_left, Bool.true_xor, Bool.false_xor, dDGet, dDIn, dDNewK, dDNewT, sDPutD, dKyE, dKyT, keyD]
      have hnl : ((rowNx rows v).map D.int).length = (rowNx rows v).length := List.length_map _
      have m0 : 0 ≤ as.getD k.toNat 0 % ((rowNx rows v).length : Int) := Int.emod_nonneg _ (by omega)
      have m1 : as.getD k.toNat 0 % ((rowNx rows v).length : Int) < (rowNx rows v).length := Int.emod_lt_of_pos _ (by omega)
      refine ⟨_, atI_ints' k0 k1, ?_⟩
      simp only [dVar, dC, dOp, dUn, dNil, dCons, dTup, dLst, dCB, dTest, dAnd, dOr, dNot, dAndV, dOrV, dNotV, dIfE, dChain, sNext, sSeq, sBreak, sCont, sDrop, sRet, sRetN, sIf, gdName, gdNil, gdCons, gdTup, gdSub, sAsg, dCall, xOf, sFor, dSeq, dRng1, dRng2, dI, dI0, dB0, dAdd, dIsN, dNotN, isNon, dIx, dSetL, dNeg, one, two, dLen1, dListOf1, dTupOf1, dAbs1, dIntOf1, dII, marg, dAppend1, dExtend1, dIsi, isA, dSl, dPart, dNoPart, dCut, dLc, dYes, sRaise, sTry, exBy, sPar2, sPar3, dIsBl, dNotBl, dBM, dBM0, dEq, dNe, dIn, dSgn, dIsiT2, isAny, dLenSet, dLstL, dOfE, dIxL, dCon, fLen, fTup, fSum, fMax, fMin, fAll, fAny, dEqLL, dNeLL, dLenSetL, dRefL, sTryN, exByN, goneD, withD, dXf, sRaiseF, dLc2, dEnum, dListRg1, dListRg2, dTupRg1, dTupRg2, dStrOf1, dRep, dstart, fnE_nx, fnE_rt, fnE_ex, Nat.zero_le, Nat.reduceLeDiff, decide_true, decide_false, true_or, or_true, false_or, or_false, decide_eq_true_eq, exists_eq_left', exists_eq_left, exists_eq_right, exists_eq_right', Option.some.injEq, List.cons.injEq, D.int.injEq, D.bl.injEq, D.str.injEq, D.tup.injEq, D.lro.injEq, D.ref.injEq, DO.lst.injEq, and_true, true_and, and_false, false_and, exists_false, exists_const, List.getElem?_cons_zero, List.getElem?_cons_succ, List.map_cons, List.map_nil, List.length_cons, List.length_nil, List.replicate_zero, List.replicate_succ, List.append_nil, List.cons_append, List.nil_append, List.set_cons_zero, List.set_cons_succ, Nat.reduceAdd, Nat.reduceSub, Nat.zero_add, reduceIte, Bool.false_eq_true, reduceCtorEq, if_true, if_false, Bool.not_true, Bool.not_false, exists_and_left, Bool.true_xor, Bool.false_xor, dDGet, dDIn, dDNewK, dDNewT, sDPutD, dKyE, dKyT, keyD]
      rw [hnl]
      refine ⟨by omega, _, atI_ints' m0 m1, ?_⟩
      have hw0 := hnx (nextW rows as v k) (by
        unfold nextW
        rw [List.getD_eq_getElem?_getD, List.getElem?_eq_getElem (by omega)]
        exact List.getElem_mem _)
      simp only [d_table_play_t4b3a1, dVar, dC, dOp, dUn, dNil, dCons, dTup, dLst, dCB, dTest, dAnd, dOr, dNot, dAndV, dOrV, dNotV, dIfE, dChain, sNext, sSeq, sBreak, sCont, sDrop, sRet, sRetN, sIf, gdName, gdNil, gdCons, gdTup, gdSub, sAsg, dCall, xOf, sFor, dSeq, dRng1, dRng2, dI, dI0, dB0, dAdd, dIsN, dNotN, isNon, dIx, dSetL, dNeg, one, two, dLen1, dListOf1, dTupOf1, dAbs1, dIntOf1, dII, marg, dAppend1, dExtend1, dIsi, isA, dSl, dPart, dNoPart, dCut, dLc, dYes, sRaise, sTry, exBy, sPar2, sPar3, dIsBl, dNotBl, dBM, dBM0, dEq, dNe, dIn, dSgn, dIsiT2, isAny, dLenSet, dLstL, dOfE, dIxL, dCon, fLen, fTup, fSum, fMax, fMin, fAll, fAny, dEqLL, dNeLL, dLenSetL, dRefL, sTryN, exByN, goneD, withD, dXf, sRaiseF, dLc2, dEnum, dListRg1, dListRg2, dTupRg1, dTupRg2, dStrOf1, dRep, dstart, fnE_nx, fnE_rt, fnE_ex, Nat.zero_le, Nat.reduceLeDiff, decide_true, decide_false, true_or, or_true, false_or, or_false, decide_eq_true_eq, exists_eq_left', exists_eq_left, exists_eq_right, exists_eq_right', Option.some.injEq, List.cons.injEq, D.int.injEq, D.bl.injEq, D.str.injEq, D.tup.injEq, D.lro.injEq, D.ref.injEq, DO.lst.injEq, and_true, true_and, and_false, false_and, exists_false, exists_const, List.getElem?_cons_zero, List.getElem?_cons_succ, List.map_cons, List.map_nil, List.length_cons, List.length_nil, List.replicate_zero, List.replicate_succ, List.append_nil, List.cons_append, List.nil_append, List.set_cons_zero, List.set_cons_succ, Nat.reduceAdd, Nat.reduceSub, Nat.zero_add, reduceIte, Bool.false_eq_true, reduceCtorEq, if_true, if_false, Bool.not_true, Bool.not_false, exists_and_left, Bool.true_xor, Bool.false_xor, dDGet, dDIn, dDNewK, dDNewT, sDPutD, dKyE, dKyT, keyD, List.length_map]
      have hal := hP.a1
      refine ⟨by omega, ?_⟩
      exact hnext (nextW rows as v k) ((k + 1) % as.length) _ _ _ L2 hmem ⟨hw0.1, hw0.2, Int.emod_nonneg _ (by omega), Int.emod_lt_of_pos _ (by omega)⟩ le2 g3 g4 hpf
end D2

set_option Elab.async false
set_option linter.all false
set_option maxRecDepth 100000
set_option maxHeartbeats 1000000
namespace D2
open PySem PySem.Spec PyProof.Rows L2
def subT (n c : Str) : Option Bool :=
  if n = ("BadAnswers" : Str) ∧ c = ("BadAnswers" : Str) then some true else
  if n = ("BadAnswers" : Str) ∧ c = ("GameError" : Str) then some true else
  if n = ("BadGame" : Str) ∧ c = ("BadAnswers" : Str) then some false else
  if n = ("BadGame" : Str) ∧ c = ("GameError" : Str) then some true else
  if n = ("BadPosition" : Str) ∧ c = ("BadAnswers" : Str) then some false else
  if n = ("BadPosition" : Str) ∧ c = ("GameError" : Str) then some true else
  if n = ("BadPlayer" : Str) ∧ c = ("BadAnswers" : Str) then some false else
  if n = ("BadPlayer" : Str) ∧ c = ("GameError" : Str) then some true else
  if n = ("BadTable" : Str) ∧ c = ("BadAnswers" : Str) then some false else
  if n = ("BadTable" : Str) ∧ c = ("GameError" : Str) then some true else
  none
theorem subT_BadAnswers_BadAnswers : subT "BadAnswers" "BadAnswers" = some true := by decide +kernel
theorem subT_BadAnswers_GameError : subT "BadAnswers" "GameError" = some true := by decide +kernel
theorem subT_BadGame_BadAnswers : subT "BadGame" "BadAnswers" = some false := by decide +kernel
theorem subT_BadGame_GameError : subT "BadGame" "GameError" = some true := by decide +kernel
theorem subT_BadPosition_BadAnswers : subT "BadPosition" "BadAnswers" = some false := by decide +kernel
theorem subT_BadPosition_GameError : subT "BadPosition" "GameError" = some true := by decide +kernel
theorem subT_BadPlayer_BadAnswers : subT "BadPlayer" "BadAnswers" = some false := by decide +kernel
theorem subT_BadPlayer_GameError : subT "BadPlayer" "GameError" = some true := by decide +kernel
theorem subT_BadTable_BadAnswers : subT "BadTable" "BadAnswers" = some false := by decide +kernel
theorem subT_BadTable_GameError : subT "BadTable" "GameError" = some true := by decide +kernel

def sp_law_told : SpD := fun ds L Q _ => ∃ (rows tb : List D) (pl start : Int) (d : D), ds = [.tup rows, .int pl, .tup tb, .int start, d] ∧ isGame (.tup rows) = true ∧ rows.length ≤ 1000 ∧ Tm L (.tup rows) ∧ TabT rows pl tb ∧ 0 ≤ pl ∧ pl ≤ 1 ∧ 0 ≤ start ∧ start < rows.length ∧ Tm L d ∧
  (ansOk d = false → Q (.str "answers") L) ∧ ∀ as : List Int, d = .tup (as.map .int) → ansOk d = true → Q (playR rows tb pl as start) L
theorem len_law_told : ∀ as L Q E, sp_law_told as L Q E → as.length = 5 := by rintro _ L Q E ⟨r, t, p, s, a, rfl, _⟩; rfl
def d__law_told_t2 : DS :=
  (sRet (dVar 5))
def d__law_told_t1 : DS :=
  (sSeq (sTry subT (sAsg (dCall sp_table_play (dCons (dVar 0) (dCons (dVar 1) (dCons (dVar 2) (dCons (dVar 3) (dCons (dVar 4) dNil)))))) (gdName 5)) [("BadAnswers", (sAsg (dC (.str "answers")) (gdName 5))), ("GameError", (sAsg (dC (.str "other")) (gdName 5)))]) d__law_told_t2)
def d__law_told : DS :=
  (sSeq (sAsg (dC .non) (gdName 5)) d__law_told_t1)

theorem pure_law_told : ∀ as L Q E, sp_law_told as L Q E → d__law_told (fnEnds Q E) (dstart 6 as) L := by
  rintro _ L Q E ⟨rows, tb, pl, start, d, rfl, hg, hrl, hrt, htb, pl0, pl1, s0, s1, htd, q1, q2⟩
  simp only [d__law_told, dVar, dC, dOp, dUn, dNil, dCons, dTup, dLst, dCB, dTest, dAnd, dOr, dNot, dAndV, dOrV, dNotV, dIfE, dChain, sNext, sSeq, sBreak, sCont, sDrop, sRet, sRetN, sIf, gdName, gdNil, gdCons, gdTup, gdSub, sAsg, dCall, xOf, sFor, dSeq, dRng1, dRng2, dI, dI0, dB0, dAdd, dIsN, dNotN, isNon, dIx, dSetL, dNeg, one, two, dLen1, dListOf1, dTupOf1, dAbs1, dIntOf1, dII, marg, dAppend1, dExtend1, dIsi, isA, dSl, dPart, dNoPart, dCut, dLc, dYes, sRaise, sTry, exBy, sPar2, sPar3, dIsBl, dNotBl, dBM, dBM0, dEq, dNe, dIn, dSgn, dIsiT2, isAny, dLenSet, dLstL, dOfE, dIxL, dCon, fLen, fTup, fSum, fMax, fMin, fAll, fAny, dEqLL, dNeLL, dLenSetL, dRefL, sTryN, exByN, goneD, withD, dXf, sRaiseF, dLc2, dEnum, dListRg1, dListRg2, dTupRg1, dTupRg2, dStrOf1, dRep, dstart, fnE_nx, fnE_rt, fnE_ex, Nat.zero_le, Nat.reduceLeDiff, decide_true, decide_false, true_or, or_true, false_or, or_false, decide_eq_true_eq, exists_eq_left', exists_eq_left, exists_eq_right, exists_eq_right', Option.some.injEq, List.cons.injEq, D.int.injEq, D.bl.injEq, D.str.injEq, D.tup.injEq, D.lro.injEq, D.ref.injEq, DO.lst.injEq, and_true, true_and, and_false, false_and, exists_false, exists_const, List.getElem?_cons_zero, List.getElem?_cons_succ, List.map_cons, List.map_nil, List.length_cons, List.length_nil, List.replicate_zero, List.replicate_succ, List.append_nil, List.cons_append, List.nil_append, List.set_cons_zero, List.set_cons_succ, Nat.reduceAdd, Nat.reduceSub, Nat.zero_add, reduceIte, Bool.false_eq_true, reduceCtorEq, if_true, if_false, Bool.not_true, Bool.not_false, exists_and_left, Bool.true_xor, Bool.false_xor, dRep2, dDGet, dDIn, dDNewK, dDNewT, sDPutD, dKyE, dKyT, keyD]
  simp only [d__law_told_t1, dVar, dC, dOp, dUn, dNil, dCons, dTup, dLst, dCB, dTest, dAnd, dOr, dNot, dAndV, dOrV, dNotV, dIfE, dChain, sNext, sSeq, sBreak, sCont, sDrop, sRet, sRetN, sIf, gdName, gdNil, gdCons, gdTup, gdSub, sAsg, dCall, xOf, sFor, dSeq, dRng1, dRng2, dI, dI0, dB0, dAdd, dIsN, dNotN, isNon, dIx, dSetL, dNeg, one, two, dLen1, dListOf1, dTupOf1, dAbs1, dIntOf1, dII, marg, dAppend1, dExtend1, dIsi, isA, dSl, dPart, dNoPart, dCut, dLc, dYes, sRaise, sTry, exBy, sPar2, sPar3, dIsBl, dNotBl, dBM, dBM0, dEq, dNe, dIn, dSgn, dIsiT2, isAny, dLenSet, dLstL, dOfE, dIxL, dCon, fLen, fTup, fSum, fMax, fMin, fAll, fAny, dEqLL, dNeLL, dLenSetL, dRefL, sTryN, exByN, goneD, withD, dXf, sRaiseF, dLc2, dEnum, dListRg1, dListRg2, dTupRg1, dTupRg2, dStrOf1, dRep, dstart, fnE_nx, fnE_rt, fnE_ex, Nat.zero_le, Nat.reduceLeDiff, decide_true, decide_false, true_or, or_true, false_or, or_false, decide_eq_true_eq, exists_eq_left', exists_eq_left, exists_eq_right, exists_eq_right', Option.some.injEq, List.cons.injEq, D.int.injEq, D.bl.injEq, D.str.injEq, D.tup.injEq, D.lro.injEq, D.ref.injEq, DO.lst.injEq, and_true, true_and, and_false, false_and, exists_false, exists_const, List.getElem?_cons_zero, List.getElem?_cons_succ, List.map_cons, List.map_nil, List.length_cons, List.length_nil, List.replicate_zero, List.replicate_succ, List.append_nil, List.cons_append, List.nil_append, List.set_cons_zero, List.set_cons_succ, Nat.reduceAdd, Nat.reduceSub, Nat.zero_add, reduceIte, Bool.false_eq_true, reduceCtorEq, if_true, if_false, Bool.not_true, Bool.not_false, exists_and_left, Bool.true_xor, Bool.false_xor, dRep2, dDGet, dDIn, dDNewK, dDNewT, sDPutD, dKyE, dKyT, keyD]
  refine ⟨rows, tb, pl, start, d, rfl, hg, hrl, hrt, htb, pl0, pl1, s0, s1, htd, fun h => ?_, fun as e h => ?_⟩
  · refine ⟨true, subT_BadAnswers_BadAnswers, (fun _ => ?_), (fun z => nomatch z)⟩
    simp only [d__law_told_t2, dVar, dC, dOp, dUn, dNil, dCons, dTup, dLst, dCB, dTest, dAnd, dOr, dNot, dAndV, dOrV, dNotV, dIfE, dChain, sNext, sSeq, sBreak, sCont, sDrop, sRet, sRetN, sIf, gdName, gdNil, gdCons, gdTup, gdSub, sAsg, dCall, xOf, sFor, dSeq, dRng1, dRng2, dI, dI0, dB0, dAdd, dIsN, dNotN, isNon, dIx, dSetL, dNeg, one, two, dLen1, dListOf1, dTupOf1, dAbs1, dIntOf1, dII, marg, dAppend1, dExtend1, dIsi, isA, dSl, dPart, dNoPart, dCut, dLc, dYes, sRaise, sTry, exBy, sPar2, sPar3, dIsBl, dNotBl, dBM, dBM0, dEq, dNe, dIn, dSgn, dIsiT2, isAny, dLenSet, dLstL, dOfE, dIxL, dCon, fLen, fTup, fSum, fMax, fMin, fAll, fAny, dEqLL, dNeLL, dLenSetL, dRefL, sTryN, exByN, goneD, withD, dXf, sRaiseF, dLc2, dEnum, dListRg1, dListRg2, dTupRg1, dTupRg2, dStrOf1, dRep, dstart, fnE_nx, fnE_rt, fnE_ex, Nat.zero_le, Nat.reduceLeDiff, decide_true, decide_false, true_or, or_true, false_or, or_false, decide_eq_true_eq, exists_eq_left', exists_eq_left, exists_eq_right, exists_eq_right', Option.some.injEq, List.cons.injEq, D.int.injEq, D.bl.injEq, D.str.injEq, D.tup.injEq, D.lro.injEq, D.ref.injEq, DO.lst.injEq, and_true, true_and, and_false, false_and, exists_false, exists_const, List.getElem?_cons_zero, List.getElem?_cons_succ, List.map_cons, List.map_nil, List.length_cons, List.length_nil, List.replicate_zero, List.replicate_succ, List.append_nil, List.cons_append, List.nil_append, List.set_cons_zero, List.set_cons_succ, Nat.reduceAdd, Nat.reduceSub, Nat.zero_add, reduceIte, Bool.false_eq_true, reduceCtorEq, if_true, if_false, Bool.not_true, Bool.not_false, exists_and_left, Bool.true_xor, Bool.false_xor, dRep2, dDGet, dDIn, dDNewK, dDNewT, sDPutD, dKyE, dKyT, keyD]
    exact endOf (q1 h)
  · simp only [d__law_told_t2, dVar, dC, dOp, dUn, dNil, dCons, dTup, dLst, dCB, dTest, dAnd, dOr, dNot, dAndV, dOrV, dNotV, dIfE, dChain, sNext, sSeq, sBreak, sCont, sDrop, sRet, sRetN, sIf, gdName, gdNil, gdCons, gdTup, gdSub, sAsg, dCall, xOf, sFor, dSeq, dRng1, dRng2, dI, dI0, dB0, dAdd, dIsN, dNotN, isNon, dIx, dSetL, dNeg, one, two, dLen1, dListOf1, dTupOf1, dAbs1, dIntOf1, dII, marg, dAppend1, dExtend1, dIsi, isA, dSl, dPart, dNoPart, dCut, dLc, dYes, sRaise, sTry, exBy, sPar2, sPar3, dIsBl, dNotBl, dBM, dBM0, dEq, dNe, dIn, dSgn, dIsiT2, isAny, dLenSet, dLstL, dOfE, dIxL, dCon, fLen, fTup, fSum, fMax, fMin, fAll, fAny, dEqLL, dNeLL, dLenSetL, dRefL, sTryN, exByN, goneD, withD, dXf, sRaiseF, dLc2, dEnum, dListRg1, dListRg2, dTupRg1, dTupRg2, dStrOf1, dRep, dstart, fnE_nx, fnE_rt, fnE_ex, Nat.zero_le, Nat.reduceLeDiff, decide_true, decide_false, true_or, or_true, false_or, or_false, decide_eq_true_eq, exists_eq_left', exists_eq_left, exists_eq_right, exists_eq_right', Option.some.injEq, List.cons.injEq, D.int.injEq, D.bl.injEq, D.str.injEq, D.tup.injEq, D.lro.injEq, D.ref.injEq, DO.lst.injEq, and_true, true_and, and_false, false_and, exists_false, exists_const, List.getElem?_cons_zero, List.getElem?_cons_succ, List.map_cons, List.map_nil, List.length_cons, List.length_nil, List.replicate_zero, List.replicate_succ, List.append_nil, List.cons_append, List.nil_append, List.set_cons_zero, List.set_cons_succ, Nat.reduceAdd, Nat.reduceSub, Nat.zero_add, reduceIte, Bool.false_eq_true, reduceCtorEq, if_true, if_false, Bool.not_true, Bool.not_false, exists_and_left, Bool.true_xor, Bool.false_xor, dRep2, dDGet, dDIn, dDNewK, dDNewT, sDPutD, dKyE, dKyT, keyD]
    exact endOf (q2 as e h)
def sp_law_table : SpD := fun ds L Q _ => ∃ (a b : Addr) (n : Nat) (rows : List D) (pl : Int) (gp : Bool), ds = [.ref a, .tup rows, .int pl, .bl gp] ∧ JugAt n L a b ∧ n ≤ 800000000 ∧ isGame (.tup rows) = true ∧ rows.length ≤ 1000 ∧
  ∀ (tb : List D) (L' : DH), Ext a L L' → JugAt (n + 3000) L' a b → TabT rows pl tb → Q (.tup tb) L'
theorem len_law_table : ∀ as L Q E, sp_law_table as L Q E → as.length = 4 := by rintro _ L Q E ⟨a, b, n, r, p, g, rfl, _⟩; rfl
def d__law_table_t1b2 : DS :=
  (sDrop (dBM chkL (marg dAppend1) (dVar 4) (dCons (dVar 8) dNil)))
def d__law_table_t1b1 : DS :=
  (sSeq (sIf (dOr (dTest (dOp dNe (dVar 5) (dVar 2))) (dAnd (dTest (dVar 3)) (dTest (dOp dEq (dCall sp_law_take (dCons (dVar 0) (dCons (dC (.int 5)) dNil))) (dC (.int 0)))))) (sAsg (dC .non) (gdName 8)) sNext) d__law_table_t1b2)
def d__law_table_b1 : DS :=
  (sSeq (sAsg (dOp dIx (dVar 7) (dCall sp_law_take (dCons (dVar 0) (dCons (dCB dLen (dCons (dVar 7) dNil)) dNil)))) (gdName 8)) d__law_table_t1b1)
def d__law_table_t2 : DS :=
  (sRet (dCB dTupOf (dCons (dVar 4) dNil)))
def d__law_table_t1 : DS :=
  (sSeq (sFor (dSeq (dVar 1)) (gdTup 3 (gdCons (gdName 5) (gdCons (gdName 6) (gdCons (gdName 7) gdNil))))
  d__law_table_b1) d__law_table_t2)
def d__law_table : DS :=
  (sSeq (sAsg (dLst dNil) (gdName 4)) d__law_table_t1)

theorem pure_law_table : ∀ as L Q E, sp_law_table as L Q E → d__law_table (fnEnds Q E) (dstart 9 as) L := by
  rintro _ L Q E ⟨a, b, n, rows, pl, gp, rfl, hj, hn, hg, hrl, q⟩
  simp only [d__law_table, dVar, dC, dOp, dUn, dNil, dCons, dTup, dLst, dCB, dTest, dAnd, dOr, dNot, dAndV, dOrV, dNotV, dIfE, dChain, sNext, sSeq, sBreak, sCont, sDrop, sRet, sRetN, sIf, gdName, gdNil, gdCons, gdTup, gdSub, sAsg, dCall, xOf, sFor, dSeq, dRng1, dRng2, dI, dI0, dB0, dAdd, dIsN, dNotN, isNon, dIx, dSetL, dNeg, one, two, dLen1, dListOf1, dTupOf1, dAbs1, dIntOf1, dII, marg, dAppend1, dExtend1, dIsi, isA, dSl, dPart, dNoPart, dCut, dLc, dYes, sRaise, sTry, exBy, sPar2, sPar3, dIsBl, dNotBl, dBM, dBM0, dEq, dNe, dIn, dSgn, dIsiT2, isAny, dLenSet, dLstL, dOfE, dIxL, dCon, fLen, fTup, fSum, fMax, fMin, fAll, fAny, dEqLL, dNeLL, dLenSetL, dRefL, sTryN, exByN, goneD, withD, dXf, sRaiseF, dLc2, dEnum, dListRg1, dListRg2, dTupRg1, dTupRg2, dStrOf1, dRep, dstart, fnE_nx, fnE_rt, fnE_ex, Nat.zero_le, Nat.reduceLeDiff, decide_true, decide_false, true_or, or_true, false_or, or_false, decide_eq_true_eq, exists_eq_left', exists_eq_left, exists_eq_right, exists_eq_right', Option.some.injEq, List.cons.injEq, D.int.injEq, D.bl.injEq, D.str.injEq, D.tup.injEq, D.lro.injEq, D.ref.injEq, DO.lst.injEq, and_true, true_and, and_false, false_and, exists_false, exists_const, List.getElem?_cons_zero, List.getElem?_cons_succ, List.map_cons, List.map_nil, List.length_cons, List.length_nil, List.replicate_zero, List.replicate_succ, List.append_nil, List.cons_append, List.nil_append, List.set_cons_zero, List.set_cons_succ, Nat.reduceAdd, Nat.reduceSub, Nat.zero_add, reduceIte, Bool.false_eq_true, reduceCtorEq, if_true, if_false, Bool.not_true, Bool.not_false, exists_and_left, Bool.true_xor, Bool.false_xor, dRep2, dDGet, dDIn, dDNewK, dDNewT, sDPutD, dKyE, dKyT, keyD]
  intro p hp
  obtain ⟨pa, pb, hj1⟩ := hj.new (o := .lst []) hp
  have hx1 : Ext a L (upd L p (.lst [])) := Ext.refl.new hp
  have hl1 : upd L p (.lst []) p = some (.lst []) := updD_same
  generalize upd L p (.lst []) = L1 at hj1 hx1 hl1
  simp only [d__law_table_t1, dVar, dC, dOp, dUn, dNil, dCons, dTup, dLst, dCB, dTest, dAnd, dOr, dNot, dAndV, dOrV, dNotV, dIfE, dChain, sNext, sSeq, sBreak, sCont, sDrop, sRet, sRetN, sIf, gdName, gdNil, gdCons, gdTup, gdSub, sAsg, dCall, xOf, sFor, dSeq, dRng1, dRng2, dI, dI0, dB0, dAdd, dIsN, dNotN, isNon, dIx, dSetL, dNeg, one, two, dLen1, dListOf1, dTupOf1, dAbs1, dIntOf1, dII, marg, dAppend1, dExtend1, dIsi, isA, dSl, dPart, dNoPart, dCut, dLc, dYes, sRaise, sTry, exBy, sPar2, sPar3, dIsBl, dNotBl, dBM, dBM0, dEq, dNe, dIn, dSgn, dIsiT2, isAny, dLenSet, dLstL, dOfE, dIxL, dCon, fLen, fTup, fSum, fMax, fMin, fAll, fAny, dEqLL, dNeLL, dLenSetL, dRefL, sTryN, exByN, goneD, withD, dXf, sRaiseF, dLc2, dEnum, dListRg1, dListRg2, dTupRg1, dTupRg2, dStrOf1, dRep, dstart, fnE_nx, fnE_rt, fnE_ex, Nat.zero_le, Nat.reduceLeDiff, decide_true, decide_false, true_or, or_true, false_or, or_false, decide_eq_true_eq, exists_eq_left', exists_eq_left, exists_eq_right, exists_eq_right', Option.some.injEq, List.cons.injEq, D.int.injEq, D.bl.injEq, D.str.injEq, D.tup.injEq, D.lro.injEq, D.ref.injEq, DO.lst.injEq, and_true, true_and, and_false, false_and, exists_false, exists_const, List.getElem?_cons_zero, List.getElem?_cons_succ, List.map_cons, List.map_nil, List.length_cons, List.length_nil, List.replicate_zero, List.replicate_succ, List.append_nil, List.cons_append, List.nil_append, List.set_cons_zero, List.set_cons_succ, Nat.reduceAdd, Nat.reduceSub, Nat.zero_add, reduceIte, Bool.false_eq_true, reduceCtorEq, if_true, if_false, Bool.not_true, Bool.not_false, exists_and_left, Bool.true_xor, Bool.false_xor, dRep2, dDGet, dDIn, dDNewK, dDNewT, sDPutD, dKyE, dKyT, keyD]
  refine ⟨_, _, rfl, ?_⟩
  refine forD_ix (fun i s L' => ∃ (m : Nat) (tb : List D) (o5 o6 o7 o8 : Option D), m ≤ n + 2 * i ∧ JugAt m L' a b ∧ Ext a L L' ∧ L' p = some (.lst tb) ∧ tb.length = i ∧ (∀ v : Int, 0 ≤ v → v < i → EntT rows pl v (tb.getD v.toNat .non)) ∧
    s = [some (.ref a), some (.tup rows), some (.int pl), some (.bl gp), some (.ref p), o5, o6, o7, o8]) _ ?_ ?_ _ _ ⟨n, [], _, _, _, _, by omega, hj1, hx1, hl1, rfl, (fun v h0 h1 => by omega), rfl⟩
  · rintro i d hd s L' K hK ⟨m, tb, o5, o6, o7, o8, hm, hj, hx, hl, htl, hen, rfl⟩
    have hi : i < rows.length := (List.getElem?_eq_some_iff.mp hd).1
    obtain ⟨hat, ow0, ow1, n1, n2, hnx⟩ := game_at2 hg (v := (i : Int)) (by omega) (by omega)
    have hde : d = .tup [.int (rowOw rows i), .int (rowMk rows i), .tup ((rowNx rows i).map .int)] := by
      have h1 := atI_nat hd
      rw [hat] at h1
      exact (Option.some.inj h1).symm
    subst hde
    refine ⟨trivial, ?_⟩
    simp only [dVar, dC, dOp, dUn, dNil, dCons, dTup, dLst, dCB, dTest, dAnd, dOr, dNot, dAndV, dOrV, dNotV, dIfE, dChain, sNext, sSeq, sBreak, sCont, sDrop, sRet, sRetN, sIf, gdName, gdNil, gdCons, gdTup, gdSub, sAsg, dCall, xOf, sFor, dSeq, dRng1, dRng2, dI, dI0, dB0, dAdd, dIsN, dNotN, isNon, dIx, dSetL, dNeg, one, two, dLen1, dListOf1, dTupOf1, dAbs1, dIntOf1, dII, marg, dAppend1, dExtend1, dIsi, isA, dSl, dPart, dNoPart, dCut, dLc, dYes, sRaise, sTry, exBy, sPar2, sPar3, dIsBl, dNotBl, dBM, dBM0, dEq, dNe, dIn, dSgn, dIsiT2, isAny, dLenSet, dLstL, dOfE, dIxL, dCon, fLen, fTup, fSum, fMax, fMin, fAll, fAny, dEqLL, dNeLL, dLenSetL, dRefL, sTryN, exByN, goneD, withD, dXf, sRaiseF, dLc2, dEnum, dListRg1, dListRg2, dTupRg1, dTupRg2, dStrOf1, dRep, dstart, fnE_nx, fnE_rt, fnE_ex, Nat.zero_le, Nat.reduceLeDiff, decide_true, decide_false, true_or, or_true, false_or, or_false, decide_eq_true_eq, exists_eq_left', exists_eq_left, exists_eq_right, exists_eq_right', Option.some.injEq, List.cons.injEq, D.int.injEq, D.bl.injEq, D.str.injEq, D.tup.injEq, D.lro.injEq, D.ref.injEq, DO.lst.injEq, and_true, true_and, and_false, false_and, exists_false, exists_const, List.getElem?_cons_zero, List.getElem?_cons_succ, List.map_cons, List.map_nil, List.length_cons, List.length_nil, List.replicate_zero, List.replicate_succ, List.append_nil, List.cons_append, List.nil_append, List.set_cons_zero, List.set_cons_succ, Nat.reduceAdd, Nat.reduceSub, Nat.zero_add, reduceIte, Bool.false_eq_true, reduceCtorEq, if_true, if_false, Bool.not_true, Bool.not_false, exists_and_left, Bool.true_xor, Bool.false_xor, dRep2, dDGet, dDIn, dDNewK, dDNewT, sDPutD, dKyE, dKyT, keyD]
    simp only [d__law_table_b1, dVar, dC, dOp, dUn, dNil, dCons, dTup, dLst, dCB, dTest, dAnd, dOr, dNot, dAndV, dOrV, dNotV, dIfE, dChain, sNext, sSeq, sBreak, sCont, sDrop, sRet, sRetN, sIf, gdName, gdNil, gdCons, gdTup, gdSub, sAsg, dCall, xOf, sFor, dSeq, dRng1, dRng2, dI, dI0, dB0, dAdd, dIsN, dNotN, isNon, dIx, dSetL, dNeg, one, two, dLen1, dListOf1, dTupOf1, dAbs1, dIntOf1, dII, marg, dAppend1, dExtend1, dIsi, isA, dSl, dPart, dNoPart, dCut, dLc, dYes, sRaise, sTry, exBy, sPar2, sPar3, dIsBl, dNotBl, dBM, dBM0, dEq, dNe, dIn, dSgn, dIsiT2, isAny, dLenSet, dLstL, dOfE, dIxL, dCon, fLen, fTup, fSum, fMax, fMin, fAll, fAny, dEqLL, dNeLL, dLenSetL, dRefL, sTryN, exByN, goneD, withD, dXf, sRaiseF, dLc2, dEnum, dListRg1, dListRg2, dTupRg1, dTupRg2, dStrOf1, dRep, dstart, fnE_nx, fnE_rt, fnE_ex, Nat.zero_le, Nat.reduceLeDiff, decide_true, decide_false, true_or, or_true, false_or, or_false, decide_eq_true_eq, exists_eq_left', exists_eq_left, exists_eq_right, exists_eq_right', Option.some.injEq, List.cons.injEq, D.int.injEq, D.bl.injEq, D.str.injEq, D.tup.injEq, D.lro.injEq, D.ref.injEq, DO.lst.injEq, and_true, true_and, and_false, false_and, exists_false, exists_const, List.getElem?_cons_zero, List.getElem?_cons_succ, List.map_cons, List.map_nil, List.length_cons, List.length_nil, List.replicate_zero, List.replicate_succ, List.append_nil, List.cons_append, List.nil_append, List.set_cons_zero, List.set_cons_succ, Nat.reduceAdd, Nat.reduceSub, Nat.zero_add, reduceIte, Bool.false_eq_true, reduceCtorEq, if_true, if_false, Bool.not_true, Bool.not_false, exists_and_left, Bool.true_xor, Bool.false_xor, dRep2, dDGet, dDIn, dDNewK, dDNewT, sDPutD, dKyE, dKyT, keyD]
    have hnl : ((rowNx rows i).map D.int).length = (rowNx rows i).length := List.length_map _
    refine ⟨a, b, _, m, rfl, hj, by omega, by rw [hnl]; omega, by rw [hnl]; exact big_m (by omega), fun r o r0 r1 hj2 => ?_⟩
    rw [hnl] at r1
    refine ⟨_, atI_ints' r0 r1, ?_⟩
    have hxm : (rowNx rows i).getD r.toNat 0 ∈ rowNx rows i := by
      rw [List.getD_eq_getElem?_getD, List.getElem?_eq_getElem (by omega)]
      exact List.getElem_mem _
    have hx2 : Ext a L (upd L' a o) := hx.bag
    have hl2 : upd L' a o p = some (.lst tb) := by rw [updD_ne pa]; exact hl
    generalize upd L' a o = L2 at hj2 hx2 hl2
    generalize (rowNx rows i).getD r.toNat 0 = x at hxm
    have hfin : ∀ (e : D) (m' : Nat) (L3 : DH), EntT rows pl i e → m' ≤ m + 2 → JugAt m' L3 a b → Ext a L L3 → L3 p = some (.lst tb) → d__law_table_t1b2 { nx := K, rt := (fnEnds Q E).rt, bk := d__law_table_t2 (fnEnds Q E), ct := K, ex := (fnEnds Q E).ex }
        [some (.ref a), some (.tup rows), some (.int pl), some (.bl gp), some (.ref p), some (.int (rowOw rows i)), some (.int (rowMk rows i)), some (.tup ((rowNx rows i).map .int)), some e] L3 := by
      intro e m' L3 he hm' hj3 hx3 hl3
      simp only [d__law_table_t1b2, dVar, dC, dOp, dUn, dNil, dCons, dTup, dLst, dCB, dTest, dAnd, dOr, dNot, dAndV, dOrV, dNotV, dIfE, dChain, sNext, sSeq, sBreak, sCont, sDrop, sRet, sRetN, sIf, gdName, gdNil, gdCons, gdTup, gdSub, sAsg, dCall, xOf, sFor, dSeq, dRng1, dRng2, dI, dI0, dB0, dAdd, dIsN, dNotN, isNon, dIx, dSetL, dNeg, one, two, dLen1, dListOf1, dTupOf1, dAbs1, dIntOf1, dII, marg, dAppend1, dExtend1, dIsi, isA, dSl, dPart, dNoPart, dCut, dLc, dYes, sRaise, sTry, exBy, sPar2, sPar3, dIsBl, dNotBl, dBM, dBM0, dEq, dNe, dIn, dSgn, dIsiT2, isAny, dLenSet, dLstL, dOfE, dIxL, dCon, fLen, fTup, fSum, fMax, fMin, fAll, fAny, dEqLL, dNeLL, dLenSetL, dRefL, sTryN, exByN, goneD, withD, dXf, sRaiseF, dLc2, dEnum, dListRg1, dListRg2, dTupRg1, dTupRg2, dStrOf1, dRep, dstart, fnE_nx, fnE_rt, fnE_ex, Nat.zero_le, Nat.reduceLeDiff, decide_true, decide_false, true_or, or_true, false_or, or_false, decide_eq_true_eq, exists_eq_left', exists_eq_left, exists_eq_right, exists_eq_right', Option.some.injEq, List.cons.injEq, D.int.injEq, D.bl.injEq, D.str.injEq, D.tup.injEq, D.lro.injEq, D.ref.injEq, DO.lst.injEq, and_true, true_and, and_false, false_and, exists_false, exists_const, List.getElem?_cons_zero, List.getElem?_cons_succ, List.map_cons, List.map_nil, List.length_cons, List.length_nil, List.replicate_zero, List.replicate_succ, List.append_nil, List.cons_append, List.nil_append, List.set_cons_zero, List.set_cons_succ, Nat.reduceAdd, Nat.reduceSub, Nat.zero_add, reduceIte, Bool.false_eq_true, reduceCtorEq, if_true, if_false, Bool.not_true, Bool.not_false, exists_and_left, Bool.true_xor, Bool.false_xor, dRep2, dDGet, dDIn, dDNewK, dDNewT, sDPutD, dKyE, dKyT, keyD]
      refine ⟨⟨_, lstOf_ref hl3⟩, _, hl3, by omega, ?_⟩
      refine hK _ _ ⟨m', tb ++ [e], _, _, _, _, by omega, hj3.off pa pb, hx3.own hp, updD_same, by simp [htl], fun v h0 h1 => ?_, rfl⟩
      by_cases hv : v < i
      · rw [List.getD_eq_getElem?_getD, List.getElem?_append_left (by omega), ← List.getD_eq_getElem?_getD]
        exact hen v h0 hv
      · have : v = i := by omega
        subst this
        rw [List.getD_eq_getElem?_getD, List.getElem?_append_right (by omega), show ((i : Int).toNat - tb.length) = 0 by omega]
        exact he
    simp only [d__law_table_t1b1, dVar, dC, dOp, dUn, dNil, dCons, dTup, dLst, dCB, dTest, dAnd, dOr, dNot, dAndV, dOrV, dNotV, dIfE, dChain, sNext, sSeq, sBreak, sCont, sDrop, sRet, sRetN, sIf, gdName, gdNil, gdCons, gdTup, gdSub, sAsg, dCall, xOf, sFor, dSeq, dRng1, dRng2, dI, dI0, dB0, dAdd, dIsN, dNotN, isNon, dIx, dSetL, dNeg, one, two, dLen1, dListOf1, dTupOf1, dAbs1, dIntOf1, dII, marg, dAppend1, dExtend1, dIsi, isA, dSl, dPart, dNoPart, dCut, dLc, dYes, sRaise, sTry, exBy, sPar2, sPar3, dIsBl, dNotBl, dBM, dBM0, dEq, dNe, dIn, dSgn, dIsiT2, isAny, dLenSet, dLstL, dOfE, dIxL, dCon, fLen, fTup, fSum, fMax, fMin, fAll, fAny, dEqLL, dNeLL, dLenSetL, dRefL, sTryN, exByN, goneD, withD, dXf, sRaiseF, dLc2, dEnum, dListRg1, dListRg2, dTupRg1, dTupRg2, dStrOf1, dRep, dstart, fnE_nx, fnE_rt, fnE_ex, Nat.zero_le, Nat.reduceLeDiff, decide_true, decide_false, true_or, or_true, false_or, or_false, decide_eq_true_eq, exists_eq_left', exists_eq_left, exists_eq_right, exists_eq_right', Option.some.injEq, List.cons.injEq, D.int.injEq, D.bl.injEq, D.str.injEq, D.tup.injEq, D.lro.injEq, D.ref.injEq, DO.lst.injEq, and_true, true_and, and_false, false_and, exists_false, exists_const, List.getElem?_cons_zero, List.getElem?_cons_succ, List.map_cons, List.map_nil, List.length_cons, List.length_nil, List.replicate_zero, List.replicate_succ, List.append_nil, List.cons_append, List.nil_append, List.set_cons_zero, List.set_cons_succ, Nat.reduceAdd, Nat.reduceSub, Nat.zero_add, reduceIte, Bool.false_eq_true, reduceCtorEq, if_true, if_false, Bool.not_true, Bool.not_false, exists_and_left, Bool.true_xor, Bool.false_xor, dRep2, dDGet, dDIn, dDNewK, dDNewT, sDPutD, dKyE, dKyT, keyD, eqD_int]
    by_cases ho : rowOw rows i = pl
    · have hbo : (rowOw rows i == pl) = true := beq_iff_eq.mpr ho
      rw [hbo]
      simp only [dVar, dC, dOp, dUn, dNil, dCons, dTup, dLst, dCB, dTest, dAnd, dOr, dNot, dAndV, dOrV, dNotV, dIfE, dChain, sNext, sSeq, sBreak, sCont, sDrop, sRet, sRetN, sIf, gdName, gdNil, gdCons, gdTup, gdSub, sAsg, dCall, xOf, sFor, dSeq, dRng1, dRng2, dI, dI0, dB0, dAdd, dIsN, dNotN, isNon, dIx, dSetL, dNeg, one, two, dLen1, dListOf1, dTupOf1, dAbs1, dIntOf1, dII, marg, dAppend1, dExtend1, dIsi, isA, dSl, dPart, dNoPart, dCut, dLc, dYes, sRaise, sTry, exBy, sPar2, sPar3, dIsBl, dNotBl, dBM, dBM0, dEq, dNe, dIn, dSgn, dIsiT2, isAny, dLenSet, dLstL, dOfE, dIxL, dCon, fLen, fTup, fSum, fMax, fMin, fAll, fAny, dEqLL, dNeLL, dLenSetL, dRefL, sTryN, exByN, goneD, withD, dXf, sRaiseF, dLc2, dEnum, dListRg1, dListRg2, dTupRg1, dTupRg2, dStrOf1, dRep, dstart, fnE_nx, fnE_rt, fnE_ex, Nat.zero_le, Nat.reduceLeDiff, decide_true, decide_false, true_or, or_true, false_or, or_false, decide_eq_true_eq, exists_eq_left', exists_eq_left, exists_eq_right, exists_eq_right', Option.some.injEq, List.cons.injEq, D.int.injEq, D.bl.injEq, D.str.injEq, D.tup.injEq, D.lro.injEq, D.ref.injEq, DO.lst.injEq, and_true, true_and, and_false, false_and, exists_false, exists_const, List.getElem?_cons_zero, List.getElem?_cons_succ, List.map_cons, List.map_nil, List.length_cons, List.length_nil, List.replicate_zero, List.replicate_succ, List.append_nil, List.cons_append, List.nil_append, List.set_cons_zero, List.set_cons_succ, Nat.reduceAdd, Nat.reduceSub, Nat.zero_add, reduceIte, Bool.false_eq_true, reduceCtorEq, if_true, if_false, Bool.not_true, Bool.not_false, exists_and_left, Bool.true_xor, Bool.false_xor, dRep2, dDGet, dDIn, dDNewK, dDNewT, sDPutD, dKyE, dKyT, keyD]
      cases gp with
      | false =>
        simp only [dVar, dC, dOp, dUn, dNil, dCons, dTup, dLst, dCB, dTest, dAnd, dOr, dNot, dAndV, dOrV, dNotV, dIfE, dChain, sNext, sSeq, sBreak, sCont, sDrop, sRet, sRetN, sIf, gdName, gdNil, gdCons, gdTup, gdSub, sAsg, dCall, xOf, sFor, dSeq, dRng1, dRng2, dI, dI0, dB0, dAdd, dIsN, dNotN, isNon, dIx, dSetL, dNeg, one, two, dLen1, dListOf1, dTupOf1, dAbs1, dIntOf1, dII, marg, dAppend1, dExtend1, dIsi, isA, dSl, dPart, dNoPart, dCut, dLc, dYes, sRaise, sTry, exBy, sPar2, sPar3, dIsBl, dNotBl, dBM, dBM0, dEq, dNe, dIn, dSgn, dIsiT2, isAny, dLenSet, dLstL, dOfE, dIxL, dCon, fLen, fTup, fSum, fMax, fMin, fAll, fAny, dEqLL, dNeLL, dLenSetL, dRefL, sTryN, exByN, goneD, withD, dXf, sRaiseF, dLc2, dEnum, dListRg1, dListRg2, dTupRg1, dTupRg2, dStrOf1, dRep, dstart, fnE_nx, fnE_rt, fnE_ex, Nat.zero_le, Nat.reduceLeDiff, decide_true, decide_false, true_or, or_true, false_or, or_false, decide_eq_true_eq, exists_eq_left', exists_eq_left, exists_eq_right, exists_eq_right', Option.some.injEq, List.cons.injEq, D.int.injEq, D.bl.injEq, D.str.injEq, D.tup.injEq, D.lro.injEq, D.ref.injEq, DO.lst.injEq, and_true, true_and, and_false, false_and, exists_false, exists_const, List.getElem?_cons_zero, List.getElem?_cons_succ, List.map_cons, List.map_nil, List.length_cons, List.length_nil, List.replicate_zero, List.replicate_succ, List.append_nil, List.cons_append, List.nil_append, List.set_cons_zero, List.set_cons_succ, Nat.reduceAdd, Nat.reduceSub, Nat.zero_add, reduceIte, Bool.false_eq_true, reduceCtorEq, if_true, if_false, Bool.not_true, Bool.not_false, exists_and_left, Bool.true_xor, Bool.false_xor, dRep2, dDGet, dDIn, dDNewK, dDNewT, sDPutD, dKyE, dKyT, keyD]
        exact hfin _ _ _ (.inr ⟨x, rfl, hxm, ho⟩) (by omega) hj2 hx2 hl2
      | true =>
        simp only [dVar, dC, dOp, dUn, dNil, dCons, dTup, dLst, dCB, dTest, dAnd, dOr, dNot, dAndV, dOrV, dNotV, dIfE, dChain, sNext, sSeq, sBreak, sCont, sDrop, sRet, sRetN, sIf, gdName, gdNil, gdCons, gdTup, gdSub, sAsg, dCall, xOf, sFor, dSeq, dRng1, dRng2, dI, dI0, dB0, dAdd, dIsN, dNotN, isNon, dIx, dSetL, dNeg, one, two, dLen1, dListOf1, dTupOf1, dAbs1, dIntOf1, dII, marg, dAppend1, dExtend1, dIsi, isA, dSl, dPart, dNoPart, dCut, dLc, dYes, sRaise, sTry, exBy, sPar2, sPar3, dIsBl, dNotBl, dBM, dBM0, dEq, dNe, dIn, dSgn, dIsiT2, isAny, dLenSet, dLstL, dOfE, dIxL, dCon, fLen, fTup, fSum, fMax, fMin, fAll, fAny, dEqLL, dNeLL, dLenSetL, dRefL, sTryN, exByN, goneD, withD, dXf, sRaiseF, dLc2, dEnum, dListRg1, dListRg2, dTupRg1, dTupRg2, dStrOf1, dRep, dstart, fnE_nx, fnE_rt, fnE_ex, Nat.zero_le, Nat.reduceLeDiff, decide_true, decide_false, true_or, or_true, false_or, or_false, decide_eq_true_eq, exists_eq_left', exists_eq_left, exists_eq_right, exists_eq_right', Option.some.injEq, List.cons.injEq, D.int.injEq, D.bl.injEq, D.str.injEq, D.tup.injEq, D.lro.injEq, D.ref.injEq, DO.lst.injEq, and_true, true_and, and_false, false_and, exists_false, exists_const, List.getElem?_cons_zero, List.getElem?_cons_succ, List.map_cons, List.map_nil, List.length_cons, List.length_nil, List.replicate_zero, List.replicate_succ, List.append_nil, List.cons_append, List.nil_append, List.set_cons_zero, List.set_cons_succ, Nat.reduceAdd, Nat.reduceSub, Nat.zero_add, reduceIte, Bool.false_eq_true, reduceCtorEq, if_true, if_false, Bool.not_true, Bool.not_false, exists_and_left, Bool.true_xor, Bool.false_xor, dRep2, dDGet, dDIn, dDNewK, dDNewT, sDPutD, dKyE, dKyT, keyD]
        refine ⟨a, b, _, _, rfl, hj2, by omega, by decide, by decide, fun t o t0 t1 hj3 => ?_⟩
        have hx3 : Ext a L (upd L2 a o) := hx2.bag
        have hl3 : upd L2 a o p = some (.lst tb) := by rw [updD_ne pa]; exact hl2
        refine ⟨_, eqD_int _ _, ?_⟩
        cases (t == 0) with
        | true => exact hfin _ _ _ (.inl rfl) (by omega) hj3 hx3 hl3
        | false => exact hfin _ _ _ (.inr ⟨x, rfl, hxm, ho⟩) (by omega) hj3 hx3 hl3
    · have hbo : (rowOw rows i == pl) = false := beq_eq_false_iff_ne.mpr ho
      rw [hbo]
      simp only [dVar, dC, dOp, dUn, dNil, dCons, dTup, dLst, dCB, dTest, dAnd, dOr, dNot, dAndV, dOrV, dNotV, dIfE, dChain, sNext, sSeq, sBreak, sCont, sDrop, sRet, sRetN, sIf, gdName, gdNil, gdCons, gdTup, gdSub, sAsg, dCall, xOf, sFor, dSeq, dRng1, dRng2, dI, dI0, dB0, dAdd, dIsN, dNotN, isNon, dIx, dSetL, dNeg, one, two, dLen1, dListOf1, dTupOf1, dAbs1, dIntOf1, dII, marg, dAppend1, dExtend1, dIsi, isA, dSl, dPart, dNoPart, dCut, dLc, dYes, sRaise, sTry, exBy, sPar2, sPar3, dIsBl, dNotBl, dBM, dBM0, dEq, dNe, dIn, dSgn, dIsiT2, isAny, dLenSet, dLstL, dOfE, dIxL, dCon, fLen, fTup, fSum, fMax, fMin, fAll, fAny, dEqLL, dNeLL, dLenSetL, dRefL, sTryN, exByN, goneD, withD, dXf, sRaiseF, dLc2, dEnum, dListRg1, dListRg2, dTupRg1, dTupRg2, dStrOf1, dRep, dstart, fnE_nx, fnE_rt, fnE_ex, Nat.zero_le, Nat.reduceLeDiff, decide_true, decide_false, true_or, or_true, false_or, or_false, decide_eq_true_eq, exists_eq_left', exists_eq_left, exists_eq_right, exists_eq_right', Option.some.injEq, List.cons.injEq, D.int.injEq, D.bl.injEq, D.str.injEq, D.tup.injEq, D.lro.injEq, D.ref.injEq, DO.lst.injEq, and_true, true_and, and_false, false_and, exists_false, exists_const, List.getElem?_cons_zero, List.getElem?_cons_succ, List.map_cons, List.map_nil, List.length_cons, List.length_nil, List.replicate_zero, List.replicate_succ, List.append_nil, List.cons_append, List.nil_append, List.set_cons_zero, List.set_cons_succ, Nat.reduceAdd, Nat.reduceSub, Nat.zero_add, reduceIte, Bool.false_eq_true, reduceCtorEq, if_true, if_false, Bool.not_true, Bool.not_false, exists_and_left, Bool.true_xor, Bool.false_xor, dRep2, dDGet, dDIn, dDNewK, dDNewT, sDPutD, dKyE, dKyT, keyD]
      exact hfin _ _ _ (.inl rfl) (by omega) hj2 hx2 hl2
  · rintro s L' ⟨m, tb, o5, o6, o7, o8, hm, hj, hx, hl, htl, hen, rfl⟩
    refine ⟨trivial, ?_⟩
    simp only [d__law_table_t2, dVar, dC, dOp, dUn, dNil, dCons, dTup, dLst, dCB, dTest, dAnd, dOr, dNot, dAndV, dOrV, dNotV, dIfE, dChain, sNext, sSeq, sBreak, sCont, sDrop, sRet, sRetN, sIf, gdName, gdNil, gdCons, gdTup, gdSub, sAsg, dCall, xOf, sFor, dSeq, dRng1, dRng2, dI, dI0, dB0, dAdd, dIsN, dNotN, isNon, dIx, dSetL, dNeg, one, two, dLen1, dListOf1, dTupOf1, dAbs1, dIntOf1, dII, marg, dAppend1, dExtend1, dIsi, isA, dSl, dPart, dNoPart, dCut, dLc, dYes, sRaise, sTry, exBy, sPar2, sPar3, dIsBl, dNotBl, dBM, dBM0, dEq, dNe, dIn, dSgn, dIsiT2, isAny, dLenSet, dLstL, dOfE, dIxL, dCon, fLen, fTup, fSum, fMax, fMin, fAll, fAny, dEqLL, dNeLL, dLenSetL, dRefL, sTryN, exByN, goneD, withD, dXf, sRaiseF, dLc2, dEnum, dListRg1, dListRg2, dTupRg1, dTupRg2, dStrOf1, dRep, dstart, fnE_nx, fnE_rt, fnE_ex, Nat.zero_le, Nat.reduceLeDiff, decide_true, decide_false, true_or, or_true, false_or, or_false, decide_eq_true_eq, exists_eq_left', exists_eq_left, exists_eq_right, exists_eq_right', Option.some.injEq, List.cons.injEq, D.int.injEq, D.bl.injEq, D.str.injEq, D.tup.injEq, D.lro.injEq, D.ref.injEq, DO.lst.injEq, and_true, true_and, and_false, false_and, exists_false, exists_const, List.getElem?_cons_zero, List.getElem?_cons_succ, List.map_cons, List.map_nil, List.length_cons, List.length_nil, List.replicate_zero, List.replicate_succ, List.append_nil, List.cons_append, List.nil_append, List.set_cons_zero, List.set_cons_succ, Nat.reduceAdd, Nat.reduceSub, Nat.zero_add, reduceIte, Bool.false_eq_true, reduceCtorEq, if_true, if_false, Bool.not_true, Bool.not_false, exists_and_left, Bool.true_xor, Bool.false_xor, dRep2, dDGet, dDIn, dDNewK, dDNewT, sDPutD, dKyE, dKyT, keyD]
    exact ⟨_, hl, endOf (q tb L' hx (hj.mono (by omega)) ⟨htl, fun v h0 h1 => hen v h0 (by omega)⟩)⟩
end D2

set_option Elab.async false
set_option linter.all false
set_option maxRecDepth 100000
set_option maxHeartbeats 1000000
namespace D2
open PySem PySem.Spec PyProof.Rows L2
theorem pl_way {xs : List PV} (h : xs.length ≤ 16777216) : Pl 2 (.tup (wayD xs)) := pl_tup (by unfold wayD; rw [List.length_map]; exact h) fun d hd => by
  obtain ⟨x, _, rfl⟩ := List.mem_map.mp hd
  exact pl_int
theorem pl_play {rows tb : List D} {pl : Int} {as : List Int} : ∀ (f : Nat) (met : List PV) (v k : Int), met.length + f ≤ 16777215 → Pl 3 (playF rows tb pl as f met v k)
  | 0, met, v, k, h => trivial
  | f + 1, met, v, k, h => by
    show Pl 3 (if (v, k) ∈ met then _ else _)
    have h2 : (met ++ [(v, k)]).length + f ≤ 16777215 := by rw [List.length_append, List.length_singleton]; omega
    have h3 : (met ++ [(v, k)]).length ≤ 16777216 := by omega
    by_cases hm : (v, k) ∈ met
    · rw [if_pos hm]
      exact pl_2 (pl_way (by rw [List.length_take]; omega)) (pl_way (by rw [List.length_drop]; omega))
    · rw [if_neg hm]
      by_cases ho : rowOw rows v = pl
      · rw [if_pos ho]
        cases tb.getD v.toNat .non with
        | int x => exact pl_play f _ _ _ h2
        | _ => exact pl_2 (pl_way h3) (pl_tup (by simp) fun d hd => by cases hd)
      · rw [if_neg ho]
        exact pl_play f _ _ _ h2
theorem rep_len (as : List Int) : ∀ k : Nat, ((List.replicate k as).flatten).length = k * as.length
  | 0 => by simp
  | k + 1 => by rw [List.replicate_succ, List.flatten_cons, List.length_append, rep_len as k, Nat.succ_mul]; omega
theorem rep_cut (as : List Int) {k n : Int} (hn : 0 ≤ n) : cut (List.replicate k.toNat (as.map D.int)).flatten none (some n) = (((List.replicate k.toNat as).flatten).take n.toNat).map D.int := by
  rw [cut_to hn, List.map_take, List.map_flatten, List.map_replicate]
theorem rep_take_len {as : List Int} (ha : 1 ≤ as.length) (k : Nat) : (((List.replicate k as).flatten).take k).length = k := by
  rw [List.length_take, rep_len]
  have := Nat.mul_le_mul (Nat.le_refl k) ha
  omega
theorem rep_mem {as : List Int} {k n : Nat} {x : Int} (hx : x ∈ ((List.replicate k as).flatten).take n) : x ∈ as := by
  obtain ⟨l, hl, hxl⟩ := List.mem_flatten.mp (List.mem_of_mem_take hx)
  rw [(List.mem_replicate.mp hl).2] at hxl
  exact hxl
def sp_law : SpD := fun ds L Q _ => ∃ ns : List Int, ds = [.lro (ns.map .int)] ∧ ns.length ≤ 63 ∧ ∀ L', Q (.bl true) L'
theorem len_law : ∀ as L Q E, sp_law as L Q E → as.length = 1 := by rintro _ L Q E ⟨p, rfl, _⟩; rfl
def d_law_t1b9 : DS :=
  (sIf (dTest (dOp dNe (dCall sp_law_told (dCons (dVar 3) (dCons (dVar 4) (dCons (dVar 5) (dCons (dVar 6) (dCons (dVar 9) dNil)))))) (dC (.str "answers")))) (sRet (dC (.bl false))) sNext)
def d_law_t1b8 : DS :=
  (sSeq (sAsg (dIxL (dLstL (dCons (dTup dNil) (dCons (dCB dListOf (dCons (dVar 7) dNil)) (dCons (dVar 8) (dCons (dSl dCut (dOp dRep2 (dVar 7) (dC (.int 1001))) dNoPart (dPart (dC (.int 1001)))) (dCons (dTup (dCons (dC (.bl true)) dNil)) (dCons (dTup (dCons (dC .non) dNil)) (dCons (dC .non) (dCons (dC (.int 3)) dNil))))))))) (dCall sp_law_take (dCons (dVar 1) (dCons (dC (.int 8)) dNil)))) (gdName 9)) d_law_t1b9)
def d_law_t1b7 : DS :=
  (sSeq (sAsg (dOp dAdd (dOp dAdd (dSl dCut (dVar 7) dNoPart (dPart (dC (.int 1)))) (dTup (dCons (dOp dSub (dUn dNeg (dC (.int 1))) (dCall sp_law_take (dCons (dVar 1) (dCons (dC (.int 9)) dNil)))) dNil))) (dSl dCut (dVar 7) (dPart (dC (.int 1))) dNoPart)) (gdName 8)) d_law_t1b8)
def d_law_t1b6 : DS :=
  (sSeq (sIf (dNot (dTest (dCall (sp_law_same 4) (dCons (dCall sp_law_told (dCons (dVar 3) (dCons (dVar 4) (dCons (dVar 5) (dCons (dVar 6) (dCons (dVar 7) dNil)))))) (dCons (dCall sp_law_play (dCons (dVar 3) (dCons (dVar 4) (dCons (dVar 5) (dCons (dVar 6) (dCons (dVar 7) dNil)))))) dNil))))) (sRet (dC (.bl false))) sNext) d_law_t1b7)
def d_law_t1b5 : DS :=
  (sSeq (sIf (dTest (dOp dEq (dCall sp_law_take (dCons (dVar 1) (dCons (dC (.int 9)) dNil))) (dC (.int 0)))) (sAsg (dSl dCut (dOp dRep2 (dVar 7) (dC (.int 1000))) dNoPart (dPart (dC (.int 1000)))) (gdName 7)) sNext) d_law_t1b6)
def d_law_t1b4 : DS :=
  (sSeq (sAsg (dCon fTup (dOfE (dLc (dRng1 (dCons (dOp dAdd (dC (.int 1)) (dCall sp_law_take (dCons (dVar 1) (dCons (dC (.int 12)) dNil)))) dNil)) (gdName 10) dYes (dCall sp_law_take (dCons (dVar 1) (dCons (dIxL (dLstL (dCons (dC (.int 5)) (dCons (dOp dPow (dC (.int 10)) (dC (.int 20))) dNil))) (dCall sp_law_take (dCons (dVar 1) (dCons (dC (.int 2)) dNil)))) dNil))) [10]))) (gdName 7)) d_law_t1b5)
def d_law_t1b3 : DS :=
  (sSeq (sAsg (dCall sp_law_take (dCons (dVar 1) (dCons (dCB dLen (dCons (dVar 3) dNil)) dNil))) (gdName 6)) d_law_t1b4)
def d_law_t1b2 : DS :=
  (sSeq (sAsg (dCall sp_law_table (dCons (dVar 1) (dCons (dVar 3) (dCons (dVar 4) (dCons (dOp dEq (dCall sp_law_take (dCons (dVar 1) (dCons (dC (.int 3)) dNil))) (dC (.int 0))) dNil))))) (gdName 5)) d_law_t1b3)
def d_law_t1b1 : DS :=
  (sSeq (sAsg (dCall sp_law_take (dCons (dVar 1) (dCons (dC (.int 2)) dNil))) (gdName 4)) d_law_t1b2)
def d_law_b1 : DS :=
  (sSeq (sAsg (dCall sp_law_game (dCons (dVar 1) (dCons (dOp dAdd (dC (.int 1)) (dCall sp_law_take (dCons (dVar 1) (dCons (dC (.int 20)) dNil)))) (dCons (dCall sp_law_marks (dCons (dVar 1) (dCons (dC (.int 3)) dNil))) (dCons (dOp dAdd (dC (.int 1)) (dCall sp_law_take (dCons (dVar 1) (dCons (dC (.int 4)) dNil)))) dNil))))) (gdName 3)) d_law_t1b1)
def d_law_t2 : DS :=
  (sRet (dC (.bl true)))
def d_law_t1 : DS :=
  (sSeq (sFor (dRng1 (dCons (dOp dAdd (dC (.int 1)) (dCB dMin2 (dCons (dCB dLen (dCons (dVar 0) dNil)) (dCons (dC (.int 8)) dNil)))) dNil)) (gdName 2)
  d_law_b1) d_law_t2)
def d_law : DS :=
  (sSeq (sAsg (dCall sp_law_jug (dCons (dVar 0) dNil)) (gdName 1)) d_law_t1)

theorem pure_law : ∀ as L Q E, sp_law as L Q E → d_law (fnEnds Q E) (dstart 11 as) L := by
  rintro as L Q E ⟨ns, rfl, hl, q⟩
  simp only [d_law, dVar, dC, dOp, dUn, dNil, dCons, dTup, dLst, dCB, dTest, dAnd, dOr, dNot, dAndV, dOrV, dNotV, dIfE, dChain, sNext, sSeq, sBreak, sCont, sDrop, sRet, sRetN, sIf, gdName, gdNil, gdCons, gdTup, gdSub, sAsg, dCall, xOf, sFor, dSeq, dRng1, dRng2, dI, dI0, dB0, dAdd, dIsN, dNotN, isNon, dIx, dSetL, dNeg, one, two, dLen1, dListOf1, dTupOf1, dAbs1, dIntOf1, dII, marg, dAppend1, dExtend1, dIsi, isA, dSl, dPart, dNoPart, dCut, dLc, dYes, sRaise, sTry, exBy, sPar2, sPar3, dIsBl, dNotBl, dBM, dBM0, dEq, dNe, dIn, dSgn, dIsiT2, isAny, dLenSet, dLstL, dOfE, dIxL, dCon, fLen, fTup, fSum, fMax, fMin, fAll, fAny, dEqLL, dNeLL, dLenSetL, dRefL, sTryN, exByN, goneD, withD, dXf, sRaiseF, dLc2, dEnum, dListRg1, dListRg2, dTupRg1, dTupRg2, dStrOf1, dRep, dstart, fnE_nx, fnE_rt, fnE_ex, Nat.zero_le, Nat.reduceLeDiff, decide_true, decide_false, true_or, or_true, false_or, or_false, decide_eq_true_eq, exists_eq_left', exists_eq_left, exists_eq_right, exists_eq_right', Option.some.injEq, List.cons.injEq, D.int.injEq, D.bl.injEq, D.str.injEq, D.tup.injEq, D.lro.injEq, D.ref.injEq, DO.lst.injEq, and_true, true_and, and_false, false_and, exists_false, exists_const, List.getElem?_cons_zero, List.getElem?_cons_succ, List.map_cons, List.map_nil, List.length_cons, List.length_nil, List.replicate_zero, List.replicate_succ, List.append_nil, List.cons_append, List.nil_append, List.set_cons_zero, List.set_cons_succ, Nat.reduceAdd, Nat.reduceSub, Nat.zero_add, reduceIte, Bool.false_eq_true, reduceCtorEq, if_true, if_false, Bool.not_true, Bool.not_false, exists_and_left, Bool.true_xor, Bool.false_xor, dRep2, dDGet, dDIn, dDNewK, dDNewT, sDPutD, dKyE, dKyT, keyD]
  refine ⟨ns, rfl, by omega, fun a b L1 hj _ _ => ?_⟩
  simp only [d_law_t1, dVar, dC, dOp, dUn, dNil, dCons, dTup, dLst, dCB, dTest, dAnd, dOr, dNot, dAndV, dOrV, dNotV, dIfE, dChain, sNext, sSeq, sBreak, sCont, sDrop, sRet, sRetN, sIf, gdName, gdNil, gdCons, gdTup, gdSub, sAsg, dCall, xOf, sFor, dSeq, dRng1, dRng2, dI, dI0, dB0, dAdd, dIsN, dNotN, isNon, dIx, dSetL, dNeg, one, two, dLen1, dListOf1, dTupOf1, dAbs1, dIntOf1, dII, marg, dAppend1, dExtend1, dIsi, isA, dSl, dPart, dNoPart, dCut, dLc, dYes, sRaise, sTry, exBy, sPar2, sPar3, dIsBl, dNotBl, dBM, dBM0, dEq, dNe, dIn, dSgn, dIsiT2, isAny, dLenSet, dLstL, dOfE, dIxL, dCon, fLen, fTup, fSum, fMax, fMin, fAll, fAny, dEqLL, dNeLL, dLenSetL, dRefL, sTryN, exByN, goneD, withD, dXf, sRaiseF, dLc2, dEnum, dListRg1, dListRg2, dTupRg1, dTupRg2, dStrOf1, dRep, dstart, fnE_nx, fnE_rt, fnE_ex, Nat.zero_le, Nat.reduceLeDiff, decide_true, decide_false, true_or, or_true, false_or, or_false, decide_eq_true_eq, exists_eq_left', exists_eq_left, exists_eq_right, exists_eq_right', Option.some.injEq, List.cons.injEq, D.int.injEq, D.bl.injEq, D.str.injEq, D.tup.injEq, D.lro.injEq, D.ref.injEq, DO.lst.injEq, and_true, true_and, and_false, false_and, exists_false, exists_const, List.getElem?_cons_zero, List.getElem?_cons_succ, List.map_cons, List.map_nil, List.length_cons, List.length_nil, List.replicate_zero, List.replicate_succ, List.append_nil, List.cons_append, List.nil_append, List.set_cons_zero, List.set_cons_succ, Nat.reduceAdd, Nat.reduceSub, Nat.zero_add, reduceIte, Bool.false_eq_true, reduceCtorEq, if_true, if_false, Bool.not_true, Bool.not_false, exists_and_left, Bool.true_xor, Bool.false_xor, dRep2, dDGet, dDIn, dDNewK, dDNewT, sDPutD, dKyE, dKyT, keyD]
  have hc : ∃ c : Int, (1 + if 8 < ((ns.map D.int).length : Int) then 8 else ((ns.map D.int).length : Int)) = c ∧ 1 ≤ c ∧ c ≤ 9 := ⟨_, rfl, by split <;> omega, by split <;> omega⟩
  obtain ⟨c, ec, c0, c1⟩ := hc
  rw [ec]
  refine ⟨⟨by omega, by omega⟩, ?_⟩
  refine forD_ind (fun rest s L' => ∃ (m k : Nat) (o2 o3 o4 o5 o6 o7 o8 o9 : Option D), m ≤ 300000 * k ∧ k + rest.length ≤ 9 ∧ JugAt m L' a b ∧ s = [some (.lro (ns.map .int)), some (.ref a), o2, o3, o4, o5, o6, o7, o8, o9, none]) ?_ ?_ _ _ _ ⟨0, 0, _, _, _, _, _, _, _, _, Nat.zero_le _, by rw [rngD_length]; omega, hj, rfl⟩
  · rintro d rest s L' P hP ⟨m, tk, o2, o3, o4, o5, o6, o7, o8, o9, hm, hk, hj, rfl⟩
    rw [List.length_cons] at hk
    have hm4 : m ≤ 4000000 := by omega
    have hnext : ∀ x : Nat, x ≤ m + 300000 → x ≤ 300000 * (tk + 1) := fun x hx => by omega
    have hk1 : tk + 1 + rest.length ≤ 9 := by omega
    clear hm hk
    refine ⟨trivial, ?_⟩
    simp only [d_law_b1, dVar, dC, dOp, dUn, dNil, dCons, dTup, dLst, dCB, dTest, dAnd, dOr, dNot, dAndV, dOrV, dNotV, dIfE, dChain, sNext, sSeq, sBreak, sCont, sDrop, sRet, sRetN, sIf, gdName, gdNil, gdCons, gdTup, gdSub, sAsg, dCall, xOf, sFor, dSeq, dRng1, dRng2, dI, dI0, dB0, dAdd, dIsN, dNotN, isNon, dIx, dSetL, dNeg, one, two, dLen1, dListOf1, dTupOf1, dAbs1, dIntOf1, dII, marg, dAppend1, dExtend1, dIsi, isA, dSl, dPart, dNoPart, dCut, dLc, dYes, sRaise, sTry, exBy, sPar2, sPar3, dIsBl, dNotBl, dBM, dBM0, dEq, dNe, dIn, dSgn, dIsiT2, isAny, dLenSet, dLstL, dOfE, dIxL, dCon, fLen, fTup, fSum, fMax, fMin, fAll, fAny, dEqLL, dNeLL, dLenSetL, dRefL, sTryN, exByN, goneD, withD, dXf, sRaiseF, dLc2, dEnum, dListRg1, dListRg2, dTupRg1, dTupRg2, dStrOf1, dRep, dstart, fnE_nx, fnE_rt, fnE_ex, Nat.zero_le, Nat.reduceLeDiff, decide_true, decide_false, true_or, or_true, false_or, or_false, decide_eq_true_eq, exists_eq_left', exists_eq_left, exists_eq_right, exists_eq_right', Option.some.injEq, List.cons.injEq, D.int.injEq, D.bl.injEq, D.str.injEq, D.tup.injEq, D.lro.injEq, D.ref.injEq, DO.lst.injEq, and_true, true_and, and_false, false_and, exists_false, exists_const, List.getElem?_cons_zero, List.getElem?_cons_succ, List.map_cons, List.map_nil, List.length_cons, List.length_nil, List.replicate_zero, List.replicate_succ, List.append_nil, List.cons_append, List.nil_append, List.set_cons_zero, List.set_cons_succ, Nat.reduceAdd, Nat.reduceSub, Nat.zero_add, reduceIte, Bool.false_eq_true, reduceCtorEq, if_true, if_false, Bool.not_true, Bool.not_false, exists_and_left, Bool.true_xor, Bool.false_xor, dRep2, dDGet, dDIn, dDNewK, dDNewT, sDPutD, dKyE, dKyT, keyD]
    refine ⟨a, b, 20, _, rfl, hj, by omega, by decide, by decide, fun r o r0 r1 hj1 => ?_⟩
    generalize upd L' a o = L2 at hj1
    refine ⟨a, b, _, 3, rfl, hj1, by omega, by decide, by decide, fun p ms L3 _ hj2 pa pb _ hp hm1 hm2 hnd hm0 => ?_⟩
    refine ⟨a, b, 4, _, rfl, hj2, by omega, by decide, by decide, fun wd o wd0 wd1 hj3 => ?_⟩
    have hp3 : upd L3 a o p = some (.lst (ms.map D.int)) := by rw [updD_ne pa]; exact hp
    generalize upd L3 a o = L4 at hj3 hp3
    refine ⟨a, b, p, _, 1 + r, 1 + wd, ms, rfl, hj3, by omega, by omega, by omega, by omega, by omega, pa, pb, hp3, hm1, by omega, fun rows L5 _ hj4 hrl hrows => ?_⟩
    have hrows : ∀ x, x ∈ rows → RowOk rows.length ms x := by rw [hrl]; exact hrows
    obtain ⟨hg, hpl⟩ := game_ok hrows (by omega) (by omega) (by omega) hm0
    have hrl1 : rows.length ≤ 1000 := by omega
    have hgt : ∀ L, Tm L (.tup rows) := fun L => hpl.tm (by decide) L
    simp only [d_law_t1b1, dVar, dC, dOp, dUn, dNil, dCons, dTup, dLst, dCB, dTest, dAnd, dOr, dNot, dAndV, dOrV, dNotV, dIfE, dChain, sNext, sSeq, sBreak, sCont, sDrop, sRet, sRetN, sIf, gdName, gdNil, gdCons, gdTup, gdSub, sAsg, dCall, xOf, sFor, dSeq, dRng1, dRng2, dI, dI0, dB0, dAdd, dIsN, dNotN, isNon, dIx, dSetL, dNeg, one, two, dLen1, dListOf1, dTupOf1, dAbs1, dIntOf1, dII, marg, dAppend1, dExtend1, dIsi, isA, dSl, dPart, dNoPart, dCut, dLc, dYes, sRaise, sTry, exBy, sPar2, sPar3, dIsBl, dNotBl, dBM, dBM0, dEq, dNe, dIn, dSgn, dIsiT2, isAny, dLenSet, dLstL, dOfE, dIxL, dCon, fLen, fTup, fSum, fMax, fMin, fAll, fAny, dEqLL, dNeLL, dLenSetL, dRefL, sTryN, exByN, goneD, withD, dXf, sRaiseF, dLc2, dEnum, dListRg1, dListRg2, dTupRg1, dTupRg2, dStrOf1, dRep, dstart, fnE_nx, fnE_rt, fnE_ex, Nat.zero_le, Nat.reduceLeDiff, decide_true, decide_false, true_or, or_true, false_or, or_false, decide_eq_true_eq, exists_eq_left', exists_eq_left, exists_eq_right, exists_eq_right', Option.some.injEq, List.cons.injEq, D.int.injEq, D.bl.injEq, D.str.injEq, D.tup.injEq, D.lro.injEq, D.ref.injEq, DO.lst.injEq, and_true, true_and, and_false, false_and, exists_false, exists_const, List.getElem?_cons_zero, List.getElem?_cons_succ, List.map_cons, List.map_nil, List.length_cons, List.length_nil, List.replicate_zero, List.replicate_succ, List.append_nil, List.cons_append, List.nil_append, List.set_cons_zero, List.set_cons_succ, Nat.reduceAdd, Nat.reduceSub, Nat.zero_add, reduceIte, Bool.false_eq_true, reduceCtorEq, if_true, if_false, Bool.not_true, Bool.not_false, exists_and_left, Bool.true_xor, Bool.false_xor, dRep2, dDGet, dDIn, dDNewK, dDNewT, sDPutD, dKyE, dKyT, keyD]
    refine ⟨a, b, 2, _, rfl, hj4, by omega, by decide, by decide, fun pl o pl0 pl1 hj5 => ?_⟩
    generalize upd L5 a o = L6 at hj5
    simp only [d_law_t1b2, dVar, dC, dOp, dUn, dNil, dCons, dTup, dLst, dCB, dTest, dAnd, dOr, dNot, dAndV, dOrV, dNotV, dIfE, dChain, sNext, sSeq, sBreak, sCont, sDrop, sRet, sRetN, sIf, gdName, gdNil, gdCons, gdTup, gdSub, sAsg, dCall, xOf, sFor, dSeq, dRng1, dRng2, dI, dI0, dB0, dAdd, dIsN, dNotN, isNon, dIx, dSetL, dNeg, one, two, dLen1, dListOf1, dTupOf1, dAbs1, dIntOf1, dII, marg, dAppend1, dExtend1, dIsi, isA, dSl, dPart, dNoPart, dCut, dLc, dYes, sRaise, sTry, exBy, sPar2, sPar3, dIsBl, dNotBl, dBM, dBM0, dEq, dNe, dIn, dSgn, dIsiT2, isAny, dLenSet, dLstL, dOfE, dIxL, dCon, fLen, fTup, fSum, fMax, fMin, fAll, fAny, dEqLL, dNeLL, dLenSetL, dRefL, sTryN, exByN, goneD, withD, dXf, sRaiseF, dLc2, dEnum, dListRg1, dListRg2, dTupRg1, dTupRg2, dStrOf1, dRep, dstart, fnE_nx, fnE_rt, fnE_ex, Nat.zero_le, Nat.reduceLeDiff, decide_true, decide_false, true_or, or_true, false_or, or_false, decide_eq_true_eq, exists_eq_left', exists_eq_left, exists_eq_right, exists_eq_right', Option.some.injEq, List.cons.injEq, D.int.injEq, D.bl.injEq, D.str.injEq, D.tup.injEq, D.lro.injEq, D.ref.injEq, DO.lst.injEq, and_true, true_and, and_false, false_and, exists_false, exists_const, List.getElem?_cons_zero, List.getElem?_cons_succ, List.map_cons, List.map_nil, List.length_cons, List.length_nil, List.replicate_zero, List.replicate_succ, List.append_nil, List.cons_append, List.nil_append, List.set_cons_zero, List.set_cons_succ, Nat.reduceAdd, Nat.reduceSub, Nat.zero_add, reduceIte, Bool.false_eq_true, reduceCtorEq, if_true, if_false, Bool.not_true, Bool.not_false, exists_and_left, Bool.true_xor, Bool.false_xor, dRep2, dDGet, dDIn, dDNewK, dDNewT, sDPutD, dKyE, dKyT, keyD]
    refine ⟨a, b, 3, _, rfl, hj5, by omega, by decide, by decide, fun gp o _ _ hj6 => ?_⟩
    generalize upd L6 a o = L7 at hj6
    refine ⟨_, eqD_int _ _, a, b, _, rows, pl, _, rfl, hj6, by omega, hg, hrl1, fun tb L8 _ hj7 htb => ?_⟩
    simp only [d_law_t1b3, dVar, dC, dOp, dUn, dNil, dCons, dTup, dLst, dCB, dTest, dAnd, dOr, dNot, dAndV, dOrV, dNotV, dIfE, dChain, sNext, sSeq, sBreak, sCont, sDrop, sRet, sRetN, sIf, gdName, gdNil, gdCons, gdTup, gdSub, sAsg, dCall, xOf, sFor, dSeq, dRng1, dRng2, dI, dI0, dB0, dAdd, dIsN, dNotN, isNon, dIx, dSetL, dNeg, one, two, dLen1, dListOf1, dTupOf1, dAbs1, dIntOf1, dII, marg, dAppend1, dExtend1, dIsi, isA, dSl, dPart, dNoPart, dCut, dLc, dYes, sRaise, sTry, exBy, sPar2, sPar3, dIsBl, dNotBl, dBM, dBM0, dEq, dNe, dIn, dSgn, dIsiT2, isAny, dLenSet, dLstL, dOfE, dIxL, dCon, fLen, fTup, fSum, fMax, fMin, fAll, fAny, dEqLL, dNeLL, dLenSetL, dRefL, sTryN, exByN, goneD, withD, dXf, sRaiseF, dLc2, dEnum, dListRg1, dListRg2, dTupRg1, dTupRg2, dStrOf1, dRep, dstart, fnE_nx, fnE_rt, fnE_ex, Nat.zero_le, Nat.reduceLeDiff, decide_true, decide_false, true_or, or_true, false_or, or_false, decide_eq_true_eq, exists_eq_left', exists_eq_left, exists_eq_right, exists_eq_right', Option.some.injEq, List.cons.injEq, D.int.injEq, D.bl.injEq, D.str.injEq, D.tup.injEq, D.lro.injEq, D.ref.injEq, DO.lst.injEq, and_true, true_and, and_false, false_and, exists_false, exists_const, List.getElem?_cons_zero, List.getElem?_cons_succ, List.map_cons, List.map_nil, List.length_cons, List.length_nil, List.replicate_zero, List.replicate_succ, List.append_nil, List.cons_append, List.nil_append, List.set_cons_zero, List.set_cons_succ, Nat.reduceAdd, Nat.reduceSub, Nat.zero_add, reduceIte, Bool.false_eq_true, reduceCtorEq, if_true, if_false, Bool.not_true, Bool.not_false, exists_and_left, Bool.true_xor, Bool.false_xor, dRep2, dDGet, dDIn, dDNewK, dDNewT, sDPutD, dKyE, dKyT, keyD]
    refine ⟨a, b, _, _, rfl, hj7, by omega, by omega, big_m (by omega), fun st o st0 st1 hj8 => ?_⟩
    generalize upd L8 a o = L9 at hj8
    simp only [d_law_t1b4, dVar, dC, dOp, dUn, dNil, dCons, dTup, dLst, dCB, dTest, dAnd, dOr, dNot, dAndV, dOrV, dNotV, dIfE, dChain, sNext, sSeq, sBreak, sCont, sDrop, sRet, sRetN, sIf, gdName, gdNil, gdCons, gdTup, gdSub, sAsg, dCall, xOf, sFor, dSeq, dRng1, dRng2, dI, dI0, dB0, dAdd, dIsN, dNotN, isNon, dIx, dSetL, dNeg, one, two, dLen1, dListOf1, dTupOf1, dAbs1, dIntOf1, dII, marg, dAppend1, dExtend1, dIsi, isA, dSl, dPart, dNoPart, dCut, dLc, dYes, sRaise, sTry, exBy, sPar2, sPar3, dIsBl, dNotBl, dBM, dBM0, dEq, dNe, dIn, dSgn, dIsiT2, isAny, dLenSet, dLstL, dOfE, dIxL, dCon, fLen, fTup, fSum, fMax, fMin, fAll, fAny, dEqLL, dNeLL, dLenSetL, dRefL, sTryN, exByN, goneD, withD, dXf, sRaiseF, dLc2, dEnum, dListRg1, dListRg2, dTupRg1, dTupRg2, dStrOf1, dRep, dstart, fnE_nx, fnE_rt, fnE_ex, Nat.zero_le, Nat.reduceLeDiff, decide_true, decide_false, true_or, or_true, false_or, or_false, decide_eq_true_eq, exists_eq_left', exists_eq_left, exists_eq_right, exists_eq_right', Option.some.injEq, List.cons.injEq, D.int.injEq, D.bl.injEq, D.str.injEq, D.tup.injEq, D.lro.injEq, D.ref.injEq, DO.lst.injEq, and_true, true_and, and_false, false_and, exists_false, exists_const, List.getElem?_cons_zero, List.getElem?_cons_succ, List.map_cons, List.map_nil, List.length_cons, List.length_nil, List.replicate_zero, List.replicate_succ, List.append_nil, List.cons_append, List.nil_append, List.set_cons_zero, List.set_cons_succ, Nat.reduceAdd, Nat.reduceSub, Nat.zero_add, reduceIte, Bool.false_eq_true, reduceCtorEq, if_true, if_false, Bool.not_true, Bool.not_false, exists_and_left, Bool.true_xor, Bool.false_xor, dRep2, dDGet, dDIn, dDNewK, dDNewT, sDPutD, dKyE, dKyT, keyD, dwipe]
    refine ⟨a, b, 12, _, rfl, hj8, by omega, by decide, by decide, fun an o an0 an1 hj9 => ?_⟩
    generalize upd L9 a o = L10 at hj9
    refine ⟨⟨by omega, by omega⟩, ?_⟩
    refine lcD_ind (fun rest acc L' => ∃ (m' : Nat), m' ≤ m + 250000 + 2 * acc.length ∧ JugAt m' L' a b ∧ acc.length + rest.length = (1 + an).toNat ∧ ∃ xs : List Int, acc = xs.map .int ∧ ∀ x, x ∈ xs → 0 ≤ x) ?_ ?_ _ _ _ ⟨_, by omega, hj9, by rw [rngD_length]; simp, [], rfl, fun x h => by cases h⟩
    · rintro d2 ds acc L11 P2 hP2 ⟨m', hm', hj10, hal, xs, rfl, hxs⟩
      rw [List.length_map, List.length_cons] at hal
      rw [List.length_map] at hm'
      refine ⟨trivial, ?_⟩
      simp only [dVar, dC, dOp, dUn, dNil, dCons, dTup, dLst, dCB, dTest, dAnd, dOr, dNot, dAndV, dOrV, dNotV, dIfE, dChain, sNext, sSeq, sBreak, sCont, sDrop, sRet, sRetN, sIf, gdName, gdNil, gdCons, gdTup, gdSub, sAsg, dCall, xOf, sFor, dSeq, dRng1, dRng2, dI, dI0, dB0, dAdd, dIsN, dNotN, isNon, dIx, dSetL, dNeg, one, two, dLen1, dListOf1, dTupOf1, dAbs1, dIntOf1, dII, marg, dAppend1, dExtend1, dIsi, isA, dSl, dPart, dNoPart, dCut, dLc, dYes, sRaise, sTry, exBy, sPar2, sPar3, dIsBl, dNotBl, dBM, dBM0, dEq, dNe, dIn, dSgn, dIsiT2, isAny, dLenSet, dLstL, dOfE, dIxL, dCon, fLen, fTup, fSum, fMax, fMin, fAll, fAny, dEqLL, dNeLL, dLenSetL, dRefL, sTryN, exByN, goneD, withD, dXf, sRaiseF, dLc2, dEnum, dListRg1, dListRg2, dTupRg1, dTupRg2, dStrOf1, dRep, dstart, fnE_nx, fnE_rt, fnE_ex, Nat.zero_le, Nat.reduceLeDiff, decide_true, decide_false, true_or, or_true, false_or, or_false, decide_eq_true_eq, exists_eq_left', exists_eq_left, exists_eq_right, exists_eq_right', Option.some.injEq, List.cons.injEq, D.int.injEq, D.bl.injEq, D.str.injEq, D.tup.injEq, D.lro.injEq, D.ref.injEq, DO.lst.injEq, and_true, true_and, and_false, false_and, exists_false, exists_const, List.getElem?_cons_zero, List.getElem?_cons_succ, List.map_cons, List.map_nil, List.length_cons, List.length_nil, List.replicate_zero, List.replicate_succ, List.append_nil, List.cons_append, List.nil_append, List.set_cons_zero, List.set_cons_succ, Nat.reduceAdd, Nat.reduceSub, Nat.zero_add, reduceIte, Bool.false_eq_true, reduceCtorEq, if_true, if_false, Bool.not_true, Bool.not_false, exists_and_left, Bool.true_xor, Bool.false_xor, dRep2, dDGet, dDIn, dDNewK, dDNewT, sDPutD, dKyE, dKyT, keyD]
      refine ⟨⟨by decide, by decide⟩, a, b, 2, m', rfl, hj10, by omega, by decide, by decide, fun t o t0 t1 hj11 => ?_⟩
      generalize upd L11 a o = L12 at hj11
      obtain ⟨w, hw, _, hwm⟩ := atI_in (xs := [D.int 5, D.int (10 ^ Int.toNat 20)]) t0 (by simpa using t1)
      obtain ⟨z, rfl, z0, z1⟩ : ∃ z : Int, w = .int z ∧ 1 ≤ z ∧ z ≤ 10 ^ 60 := by
        simp only [List.mem_cons, List.not_mem_nil, or_false] at hwm
        rcases hwm with rfl | rfl
        · exact ⟨_, rfl, by decide, by decide⟩
        · exact ⟨_, rfl, by decide, by decide⟩
      refine ⟨_, hw, a, b, z, _, rfl, hj11, by omega, z0, z1, fun y o y0 y1 hj12 => ⟨by rw [List.length_map]; omega, ?_⟩⟩
      refine hP2 _ _ ⟨_, by rw [List.length_append, List.length_map, List.length_singleton]; omega, hj12, by rw [List.length_append, List.length_map, List.length_singleton]; omega, xs ++ [y], by rw [List.map_append]; rfl, fun x hx => ?_⟩
      rcases List.mem_append.mp hx with h | h
      · exact hxs x h
      · rw [List.mem_singleton.mp h]; exact y0
    · rintro acc L11 ⟨m', hm', hj10, hal, as, rfl, has⟩
      rw [List.length_map, List.length_nil, Nat.add_zero] at hal
      rw [List.length_map] at hm'
      refine ⟨trivial, fun p4 hp4 => keep_new ?_ hp4⟩
      have hgo : ∀ (as : List Int) (m1 : Nat) (L12 : DH), 1 ≤ as.length → as.length ≤ 1000 → (∀ x, x ∈ as → 0 ≤ x) → m1 ≤ m + 250100 → JugAt m1 L12 a b → d_law_t1b6 { nx := P, rt := (fnEnds Q E).rt, bk := d_law_t2 (fnEnds Q E), ct := P, ex := (fnEnds Q E).ex }
          [some (.lro (ns.map .int)), some (.ref a), some d, some (.tup rows), some (.int pl), some (.tup tb), some (.int st), some (.tup (as.map .int)), o8, o9, none] L12 := by
        intro as m1 L12 a1 a2 ann hm1 hj12
        have hap : Pl 1 (.tup (as.map .int)) := pl_ints (by omega)
        have hok : ansOk (.tup (as.map .int)) = true := by
          show (decide (1 ≤ (as.map D.int).length ∧ (as.map D.int).length ≤ 1000) && (as.map D.int).all fun x => isInt x && decide (0 ≤ intV x)) = true
          rw [List.length_map, decide_eq_true ⟨a1, a2⟩, Bool.true_and, List.all_eq_true]
          intro x hx
          obtain ⟨y, hy, rfl⟩ := List.mem_map.mp hx
          show (true && decide (0 ≤ y)) = true
          rw [decide_eq_true (ann y hy)]; rfl
        have hfu : rows.length * as.length ≤ 1000 * 1000 := Nat.mul_le_mul hrl1 a2
        have hpp : Pl 3 (playR rows tb pl as st) := pl_play _ _ _ _ (by unfold fuelP; rw [List.length_nil]; omega)
        simp only [d_law_t1b6, dVar, dC, dOp, dUn, dNil, dCons, dTup, dLst, dCB, dTest, dAnd, dOr, dNot, dAndV, dOrV, dNotV, dIfE, dChain, sNext, sSeq, sBreak, sCont, sDrop, sRet, sRetN, sIf, gdName, gdNil, gdCons, gdTup, gdSub, sAsg, dCall, xOf, sFor, dSeq, dRng1, dRng2, dI, dI0, dB0, dAdd, dIsN, dNotN, isNon, dIx, dSetL, dNeg, one, two, dLen1, dListOf1, dTupOf1, dAbs1, dIntOf1, dII, marg, dAppend1, dExtend1, dIsi, isA, dSl, dPart, dNoPart, dCut, dLc, dYes, sRaise, sTry, exBy, sPar2, sPar3, dIsBl, dNotBl, dBM, dBM0, dEq, dNe, dIn, dSgn, dIsiT2, isAny, dLenSet, dLstL, dOfE, dIxL, dCon, fLen, fTup, fSum, fMax, fMin, fAll, fAny, dEqLL, dNeLL, dLenSetL, dRefL, sTryN, exByN, goneD, withD, dXf, sRaiseF, dLc2, dEnum, dListRg1, dListRg2, dTupRg1, dTupRg2, dStrOf1, dRep, dstart, fnE_nx, fnE_rt, fnE_ex, Nat.zero_le, Nat.reduceLeDiff, decide_true, decide_false, true_or, or_true, false_or, or_false, decide_eq_true_eq, exists_eq_left', exists_eq_left, exists_eq_right, exists_eq_right', Option.some.injEq, List.cons.injEq, D.int.injEq, D.bl.injEq, D.str.injEq, D.tup.injEq, D.lro.injEq, D.ref.injEq, DO.lst.injEq, and_true, true_and, and_false, false_and, exists_false, exists_const, List.getElem?_cons_zero, List.getElem?_cons_succ, List.map_cons, List.map_nil, List.length_cons, List.length_nil, List.replicate_zero, List.replicate_succ, List.append_nil, List.cons_append, List.nil_append, List.set_cons_zero, List.set_cons_succ, Nat.reduceAdd, Nat.reduceSub, Nat.zero_add, reduceIte, Bool.false_eq_true, reduceCtorEq, if_true, if_false, Bool.not_true, Bool.not_false, exists_and_left, Bool.true_xor, Bool.false_xor, dRep2, dDGet, dDIn, dDNewK, dDNewT, sDPutD, dKyE, dKyT, keyD]
        refine ⟨rows, tb, pl, st, _, rfl, hg, hrl1, hgt _, htb, pl0, by omega, st0, st1, hap.tm (by decide) _, (fun h => by rw [hok] at h; cases h), fun as' e _ => ?_⟩
        obtain rfl : as' = as := by
          have h2 := congrArg (List.map intV) (D.tup.inj e)
          rw [map_intV, map_intV] at h2
          exact h2.symm
        refine ⟨rows, tb, pl, st, as', rfl, ⟨hg, hrl1, htb, a1, a2, ann⟩, st0, st1, ⟨_, rfl, hpp, ?_⟩⟩
        simp only [dVar, dC, dOp, dUn, dNil, dCons, dTup, dLst, dCB, dTest, dAnd, dOr, dNot, dAndV, dOrV, dNotV, dIfE, dChain, sNext, sSeq, sBreak, sCont, sDrop, sRet, sRetN, sIf, gdName, gdNil, gdCons, gdTup, gdSub, sAsg, dCall, xOf, sFor, dSeq, dRng1, dRng2, dI, dI0, dB0, dAdd, dIsN, dNotN, isNon, dIx, dSetL, dNeg, one, two, dLen1, dListOf1, dTupOf1, dAbs1, dIntOf1, dII, marg, dAppend1, dExtend1, dIsi, isA, dSl, dPart, dNoPart, dCut, dLc, dYes, sRaise, sTry, exBy, sPar2, sPar3, dIsBl, dNotBl, dBM, dBM0, dEq, dNe, dIn, dSgn, dIsiT2, isAny, dLenSet, dLstL, dOfE, dIxL, dCon, fLen, fTup, fSum, fMax, fMin, fAll, fAny, dEqLL, dNeLL, dLenSetL, dRefL, sTryN, exByN, goneD, withD, dXf, sRaiseF, dLc2, dEnum, dListRg1, dListRg2, dTupRg1, dTupRg2, dStrOf1, dRep, dstart, fnE_nx, fnE_rt, fnE_ex, Nat.zero_le, Nat.reduceLeDiff, decide_true, decide_false, true_or, or_true, false_or, or_false, decide_eq_true_eq, exists_eq_left', exists_eq_left, exists_eq_right, exists_eq_right', Option.some.injEq, List.cons.injEq, D.int.injEq, D.bl.injEq, D.str.injEq, D.tup.injEq, D.lro.injEq, D.ref.injEq, DO.lst.injEq, and_true, true_and, and_false, false_and, exists_false, exists_const, List.getElem?_cons_zero, List.getElem?_cons_succ, List.map_cons, List.map_nil, List.length_cons, List.length_nil, List.replicate_zero, List.replicate_succ, List.append_nil, List.cons_append, List.nil_append, List.set_cons_zero, List.set_cons_succ, Nat.reduceAdd, Nat.reduceSub, Nat.zero_add, reduceIte, Bool.false_eq_true, reduceCtorEq, if_true, if_false, Bool.not_true, Bool.not_false, exists_and_left, Bool.true_xor, Bool.false_xor, dRep2, dDGet, dDIn, dDNewK, dDNewT, sDPutD, dKyE, dKyT, keyD]
        simp only [d_law_t1b7, dVar, dC, dOp, dUn, dNil, dCons, dTup, dLst, dCB, dTest, dAnd, dOr, dNot, dAndV, dOrV, dNotV, dIfE, dChain, sNext, sSeq, sBreak, sCont, sDrop, sRet, sRetN, sIf, gdName, gdNil, gdCons, gdTup, gdSub, sAsg, dCall, xOf, sFor, dSeq, dRng1, dRng2, dI, dI0, dB0, dAdd, dIsN, dNotN, isNon, dIx, dSetL, dNeg, one, two, dLen1, dListOf1, dTupOf1, dAbs1, dIntOf1, dII, marg, dAppend1, dExtend1, dIsi, isA, dSl, dPart, dNoPart, dCut, dLc, dYes, sRaise, sTry, exBy, sPar2, sPar3, dIsBl, dNotBl, dBM, dBM0, dEq, dNe, dIn, dSgn, dIsiT2, isAny, dLenSet, dLstL, dOfE, dIxL, dCon, fLen, fTup, fSum, fMax, fMin, fAll, fAny, dEqLL, dNeLL, dLenSetL, dRefL, sTryN, exByN, goneD, withD, dXf, sRaiseF, dLc2, dEnum, dListRg1, dListRg2, dTupRg1, dTupRg2, dStrOf1, dRep, dstart, fnE_nx, fnE_rt, fnE_ex, Nat.zero_le, Nat.reduceLeDiff, decide_true, decide_false, true_or, or_true, false_or, or_false, decide_eq_true_eq, exists_eq_left', exists_eq_left, exists_eq_right, exists_eq_right', Option.some.injEq, List.cons.injEq, D.int.injEq, D.bl.injEq, D.str.injEq, D.tup.injEq, D.lro.injEq, D.ref.injEq, DO.lst.injEq, and_true, true_and, and_false, false_and, exists_false, exists_const, List.getElem?_cons_zero, List.getElem?_cons_succ, List.map_cons, List.map_nil, List.length_cons, List.length_nil, List.replicate_zero, List.replicate_succ, List.append_nil, List.cons_append, List.nil_append, List.set_cons_zero, List.set_cons_succ, Nat.reduceAdd, Nat.reduceSub, Nat.zero_add, reduceIte, Bool.false_eq_true, reduceCtorEq, if_true, if_false, Bool.not_true, Bool.not_false, exists_and_left, Bool.true_xor, Bool.false_xor, dRep2, dDGet, dDIn, dDNewK, dDNewT, sDPutD, dKyE, dKyT, keyD]
        have c1 : cut (as'.map D.int) none (some 1) = (as'.take 1).map .int := by rw [cut_to (by decide), List.map_take]; rfl
        have c2 : cut (as'.map D.int) (some 1) none = (as'.drop 1).map .int := by rw [cut_from (by decide), List.map_drop]; rfl
        rw [c1, c2]
        refine ⟨a, b, 9, _, rfl, hj12, by omega, by decide, by decide, fun g o g0 g1 hj13 => ?_⟩
        generalize upd L12 a o = L13 at hj13
        have l1 : (as'.take 1).length ≤ 1 := by rw [List.length_take]; omega
        have l2 : (as'.drop 1).length ≤ 1000 := by rw [List.length_drop]; omega
        show ((as'.take 1).map D.int).length ≤ 16777215 ∧ _
        refine ⟨by rw [List.length_map]; omega, by rw [List.length_append, List.length_map, List.length_map, List.length_singleton]; omega, ?_⟩
        have hbp : Pl 1 (.tup ((as'.take 1).map D.int ++ [.int (-1 - g)] ++ (as'.drop 1).map D.int)) := by
          refine pl_tup (by rw [List.length_append, List.length_append, List.length_map, List.length_map, List.length_singleton]; omega) fun x hx => ?_
          rcases List.mem_append.mp hx with h | h
          · rcases List.mem_append.mp h with h | h
            · obtain ⟨y, _, rfl⟩ := List.mem_map.mp h; exact pl_int
            · rw [List.mem_singleton.mp h]; exact pl_int
          · obtain ⟨y, _, rfl⟩ := List.mem_map.mp h; exact pl_int
        have ano : ∀ {xs : List D} {x : D}, x ∈ xs → (isInt x && decide (0 ≤ intV x)) = false → ansOk (.tup xs) = false := fun {xs x} hx h => by
          show (_ && xs.all fun x => isInt x && decide (0 ≤ intV x)) = false
          have : (xs.all fun x => isInt x && decide (0 ≤ intV x)) = false := by
            cases hz : (xs.all fun x => isInt x && decide (0 ≤ intV x)) with
            | false => rfl
            | true =>
              have := List.all_eq_true.mp hz x hx
              rw [h] at this; cases this
          rw [this, Bool.and_false]
        have hbn : ansOk (.tup ((as'.take 1).map D.int ++ [.int (-1 - g)] ++ (as'.drop 1).map D.int)) = false := ano (x := .int (-1 - g)) (by simp) (by
          show (true && decide (0 ≤ -1 - g)) = false
          rw [decide_eq_false (by omega)]; rfl)
        generalize (as'.take 1).map D.int ++ [.int (-1 - g)] ++ (as'.drop 1).map D.int = bent at hbp hbn
        simp only [d_law_t1b8, dVar, dC, dOp, dUn, dNil, dCons, dTup, dLst, dCB, dTest, dAnd, dOr, dNot, dAndV, dOrV, dNotV, dIfE, dChain, sNext, sSeq, sBreak, sCont, sDrop, sRet, sRetN, sIf, gdName, gdNil, gdCons, gdTup, gdSub, sAsg, dCall, xOf, sFor, dSeq, dRng1, dRng2, dI, dI0, dB0, dAdd, dIsN, dNotN, isNon, dIx, dSetL, dNeg, one, two, dLen1, dListOf1, dTupOf1, dAbs1, dIntOf1, dII, marg, dAppend1, dExtend1, dIsi, isA, dSl, dPart, dNoPart, dCut, dLc, dYes, sRaise, sTry, exBy, sPar2, sPar3, dIsBl, dNotBl, dBM, dBM0, dEq, dNe, dIn, dSgn, dIsiT2, isAny, dLenSet, dLstL, dOfE, dIxL, dCon, fLen, fTup, fSum, fMax, fMin, fAll, fAny, dEqLL, dNeLL, dLenSetL, dRefL, sTryN, exByN, goneD, withD, dXf, sRaiseF, dLc2, dEnum, dListRg1, dListRg2, dTupRg1, dTupRg2, dStrOf1, dRep, dstart, fnE_nx, fnE_rt, fnE_ex, Nat.zero_le, Nat.reduceLeDiff, decide_true, decide_false, true_or, or_true, false_or, or_false, decide_eq_true_eq, exists_eq_left', exists_eq_left, exists_eq_right, exists_eq_right', Option.some.injEq, List.cons.injEq, D.int.injEq, D.bl.injEq, D.str.injEq, D.tup.injEq, D.lro.injEq, D.ref.injEq, DO.lst.injEq, and_true, true_and, and_false, false_and, exists_false, exists_const, List.getElem?_cons_zero, List.getElem?_cons_succ, List.map_cons, List.map_nil, List.length_cons, List.length_nil, List.replicate_zero, List.replicate_succ, List.append_nil, List.cons_append, List.nil_append, List.set_cons_zero, List.set_cons_succ, Nat.reduceAdd, Nat.reduceSub, Nat.zero_add, reduceIte, Bool.false_eq_true, reduceCtorEq, if_true, if_false, Bool.not_true, Bool.not_false, exists_and_left, Bool.true_xor, Bool.false_xor, dRep2, dDGet, dDIn, dDNewK, dDNewT, sDPutD, dKyE, dKyT, keyD]
        rw [rep_cut as' (by decide)]
        have hll := rep_take_len a1 (Int.toNat 1001)
        generalize ((List.replicate (Int.toNat 1001) as').flatten).take (Int.toNat 1001) = long at hll
        have hll : long.length = 1001 := hll
        intro p5 hp5
        obtain ⟨p5a, p5b, hj14⟩ := hj13.new (o := .lst (as'.map .int)) hp5
        have g5 : upd L13 p5 (.lst (as'.map .int)) p5 = some (.lst (as'.map .int)) := updD_same
        generalize upd L13 p5 (.lst (as'.map .int)) = L14 at hj14 g5
        have hne : as'.map D.int ≠ [] := by
          intro e
          have := congrArg List.length e
          rw [List.length_map, List.length_nil] at this
          omega
        refine ⟨hne, by decide, by rw [List.length_map]; omega, a, b, 8, _, rfl, hj14, by omega, by decide, by decide, fun t o t0 t1 hj15 => ?_⟩
        have g6 : upd L14 a o p5 = some (.lst (as'.map .int)) := by rw [updD_ne p5a]; exact g5
        generalize upd L14 a o = L15 at hj15 g6
        obtain ⟨x, hx, _, hxm⟩ := atI_in (xs := [D.tup [], .ref p5, .tup bent, .tup (long.map .int), .tup [.bl true], .tup [.non], .non, .int 3]) t0 (by simpa using t1)
        refine ⟨x, hx, ?_⟩
        have hxx : ansOk x = false ∧ Tm L15 x := by
          simp only [List.mem_cons, List.not_mem_nil, or_false] at hxm
          rcases hxm with rfl | rfl | rfl | rfl | rfl | rfl | rfl | rfl
          · exact ⟨rfl, (pl_tup (n := 0) (by simp) (fun d hd => by cases hd)).tm (by decide) _⟩
          · exact ⟨rfl, tm_list (n := 0) g6 hap (by decide)⟩
          · exact ⟨hbn, hbp.tm (by decide) _⟩
          · refine ⟨?_, (pl_ints (n := 0) (by omega)).tm (by decide) _⟩
            show (decide (1 ≤ (long.map D.int).length ∧ (long.map D.int).length ≤ 1000) && _) = false
            rw [List.length_map, decide_eq_false (by omega)]; rfl
          · exact ⟨ano (x := .bl true) (by simp) rfl, (pl_tup (n := 0) (ds := [.bl true]) (by simp) (fun d hd => by rw [List.mem_singleton] at hd; subst hd; trivial)).tm (by decide) _⟩
          · exact ⟨ano (x := .non) (by simp) rfl, (pl_tup (n := 0) (ds := [.non]) (by simp) (fun d hd => by rw [List.mem_singleton] at hd; subst hd; trivial)).tm (by decide) _⟩
          · exact ⟨rfl, ⟨0, by decide, trivial⟩⟩
          · exact ⟨rfl, ⟨0, by decide, trivial⟩⟩
        simp only [d_law_t1b9, dVar, dC, dOp, dUn, dNil, dCons, dTup, dLst, dCB, dTest, dAnd, dOr, dNot, dAndV, dOrV, dNotV, dIfE, dChain, sNext, sSeq, sBreak, sCont, sDrop, sRet, sRetN, sIf, gdName, gdNil, gdCons, gdTup, gdSub, sAsg, dCall, xOf, sFor, dSeq, dRng1, dRng2, dI, dI0, dB0, dAdd, dIsN, dNotN, isNon, dIx, dSetL, dNeg, one, two, dLen1, dListOf1, dTupOf1, dAbs1, dIntOf1, dII, marg, dAppend1, dExtend1, dIsi, isA, dSl, dPart, dNoPart, dCut, dLc, dYes, sRaise, sTry, exBy, sPar2, sPar3, dIsBl, dNotBl, dBM, dBM0, dEq, dNe, dIn, dSgn, dIsiT2, isAny, dLenSet, dLstL, dOfE, dIxL, dCon, fLen, fTup, fSum, fMax, fMin, fAll, fAny, dEqLL, dNeLL, dLenSetL, dRefL, sTryN, exByN, goneD, withD, dXf, sRaiseF, dLc2, dEnum, dListRg1, dListRg2, dTupRg1, dTupRg2, dStrOf1, dRep, dstart, fnE_nx, fnE_rt, fnE_ex, Nat.zero_le, Nat.reduceLeDiff, decide_true, decide_false, true_or, or_true, false_or, or_false, decide_eq_true_eq, exists_eq_left', exists_eq_left, exists_eq_right, exists_eq_right', Option.some.injEq, List.cons.injEq, D.int.injEq, D.bl.injEq, D.str.injEq, D.tup.injEq, D.lro.injEq, D.ref.injEq, DO.lst.injEq, and_true, true_and, and_false, false_and, exists_false, exists_const, List.getElem?_cons_zero, List.getElem?_cons_succ, List.map_cons, List.map_nil, List.length_cons, List.length_nil, List.replicate_zero, List.replicate_succ, List.append_nil, List.cons_append, List.nil_append, List.set_cons_zero, List.set_cons_succ, Nat.reduceAdd, Nat.reduceSub, Nat.zero_add, reduceIte, Bool.false_eq_true, reduceCtorEq, if_true, if_false, Bool.not_true, Bool.not_false, exists_and_left, Bool.true_xor, Bool.false_xor, dRep2, dDGet, dDIn, dDNewK, dDNewT, sDPutD, dKyE, dKyT, keyD]
        refine ⟨rows, tb, pl, st, x, rfl, hg, hrl1, hgt _, htb, pl0, by omega, st0, st1, hxx.2, (fun _ => ⟨_, eqD_str _ _, ?_⟩), (fun as2 e h => by rw [hxx.1] at h; cases h)⟩
        simp only [beq_self_eq_true, dVar, dC, dOp, dUn, dNil, dCons, dTup, dLst, dCB, dTest, dAnd, dOr, dNot, dAndV, dOrV, dNotV, dIfE, dChain, sNext, sSeq, sBreak, sCont, sDrop, sRet, sRetN, sIf, gdName, gdNil, gdCons, gdTup, gdSub, sAsg, dCall, xOf, sFor, dSeq, dRng1, dRng2, dI, dI0, dB0, dAdd, dIsN, dNotN, isNon, dIx, dSetL, dNeg, one, two, dLen1, dListOf1, dTupOf1, dAbs1, dIntOf1, dII, marg, dAppend1, dExtend1, dIsi, isA, dSl, dPart, dNoPart, dCut, dLc, dYes, sRaise, sTry, exBy, sPar2, sPar3, dIsBl, dNotBl, dBM, dBM0, dEq, dNe, dIn, dSgn, dIsiT2, isAny, dLenSet, dLstL, dOfE, dIxL, dCon, fLen, fTup, fSum, fMax, fMin, fAll, fAny, dEqLL, dNeLL, dLenSetL, dRefL, sTryN, exByN, goneD, withD, dXf, sRaiseF, dLc2, dEnum, dListRg1, dListRg2, dTupRg1, dTupRg2, dStrOf1, dRep, dstart, fnE_nx, fnE_rt, fnE_ex, Nat.zero_le, Nat.reduceLeDiff, decide_true, decide_false, true_or, or_true, false_or, or_false, decide_eq_true_eq, exists_eq_left', exists_eq_left, exists_eq_right, exists_eq_right', Option.some.injEq, List.cons.injEq, D.int.injEq, D.bl.injEq, D.str.injEq, D.tup.injEq, D.lro.injEq, D.ref.injEq, DO.lst.injEq, and_true, true_and, and_false, false_and, exists_false, exists_const, List.getElem?_cons_zero, List.getElem?_cons_succ, List.map_cons, List.map_nil, List.length_cons, List.length_nil, List.replicate_zero, List.replicate_succ, List.append_nil, List.cons_append, List.nil_append, List.set_cons_zero, List.set_cons_succ, Nat.reduceAdd, Nat.reduceSub, Nat.zero_add, reduceIte, Bool.false_eq_true, reduceCtorEq, if_true, if_false, Bool.not_true, Bool.not_false, exists_and_left, Bool.true_xor, Bool.false_xor, dRep2, dDGet, dDIn, dDNewK, dDNewT, sDPutD, dKyE, dKyT, keyD]
        exact hP _ _ ⟨_, tk + 1, _, _, _, _, _, _, _, _, hnext _ (by omega), hk1, hj15, rfl⟩
      simp only [d_law_t1b5, dVar, dC, dOp, dUn, dNil, dCons, dTup, dLst, dCB, dTest, dAnd, dOr, dNot, dAndV, dOrV, dNotV, dIfE, dChain, sNext, sSeq, sBreak, sCont, sDrop, sRet, sRetN, sIf, gdName, gdNil, gdCons, gdTup, gdSub, sAsg, dCall, xOf, sFor, dSeq, dRng1, dRng2, dI, dI0, dB0, dAdd, dIsN, dNotN, isNon, dIx, dSetL, dNeg, one, two, dLen1, dListOf1, dTupOf1, dAbs1, dIntOf1, dII, marg, dAppend1, dExtend1, dIsi, isA, dSl, dPart, dNoPart, dCut, dLc, dYes, sRaise, sTry, exBy, sPar2, sPar3, dIsBl, dNotBl, dBM, dBM0, dEq, dNe, dIn, dSgn, dIsiT2, isAny, dLenSet, dLstL, dOfE, dIxL, dCon, fLen, fTup, fSum, fMax, fMin, fAll, fAny, dEqLL, dNeLL, dLenSetL, dRefL, sTryN, exByN, goneD, withD, dXf, sRaiseF, dLc2, dEnum, dListRg1, dListRg2, dTupRg1, dTupRg2, dStrOf1, dRep, dstart, fnE_nx, fnE_rt, fnE_ex, Nat.zero_le, Nat.reduceLeDiff, decide_true, decide_false, true_or, or_true, false_or, or_false, decide_eq_true_eq, exists_eq_left', exists_eq_left, exists_eq_right, exists_eq_right', Option.some.injEq, List.cons.injEq, D.int.injEq, D.bl.injEq, D.str.injEq, D.tup.injEq, D.lro.injEq, D.ref.injEq, DO.lst.injEq, and_true, true_and, and_false, false_and, exists_false, exists_const, List.getElem?_cons_zero, List.getElem?_cons_succ, List.map_cons, List.map_nil, List.length_cons, List.length_nil, List.replicate_zero, List.replicate_succ, List.append_nil, List.cons_append, List.nil_append, List.set_cons_zero, List.set_cons_succ, Nat.reduceAdd, Nat.reduceSub, Nat.zero_add, reduceIte, Bool.false_eq_true, reduceCtorEq, if_true, if_false, Bool.not_true, Bool.not_false, exists_and_left, Bool.true_xor, Bool.false_xor, dRep2, dDGet, dDIn, dDNewK, dDNewT, sDPutD, dKyE, dKyT, keyD]
      refine ⟨a, b, 9, m', rfl, hj10, by omega, by decide, by decide, fun t o t0 t1 hj11 => ?_⟩
      generalize upd L11 a o = L12 at hj11
      refine ⟨_, eqD_int _ _, ?_⟩
      cases (t == 0) with
      | true =>
        rw [if_pos rfl]
        have hne : as.map D.int ≠ [] := by
          intro e
          have := congrArg List.length e
          rw [List.length_map, hal, List.length_nil] at this
          omega
        refine ⟨hne, by decide, by rw [List.length_map]; omega, ?_⟩
        rw [rep_cut as (by decide)]
        obtain ⟨k, ek⟩ : ∃ k : Nat, (1000 : Int).toNat = k := ⟨_, rfl⟩
        have ek2 : k = 1000 := ek.symm
        rw [ek]
        have hfl := rep_len as k
        have ha : 1 ≤ as.length := by omega
        have hka : 1000 ≤ k * as.length := by
          have := Nat.mul_le_mul (show 1000 ≤ k by omega) ha
          omega
        refine hgo _ _ L12 (by rw [List.length_take, hfl]; omega) (by rw [List.length_take]; omega) (fun x hx => has x (rep_mem hx)) (by omega) hj11
      | false =>
        rw [if_neg (by decide)]
        exact hgo as _ L12 (by omega) (by omega) has (by omega) hj11
  · rintro s L' ⟨m, tk, o2, o3, o4, o5, o6, o7, o8, o9, hm, hk, hj, rfl⟩
    refine ⟨trivial, ?_⟩
    simp only [d_law_t2, dVar, dC, dOp, dUn, dNil, dCons, dTup, dLst, dCB, dTest, dAnd, dOr, dNot, dAndV, dOrV, dNotV, dIfE, dChain, sNext, sSeq, sBreak, sCont, sDrop, sRet, sRetN, sIf, gdName, gdNil, gdCons, gdTup, gdSub, sAsg, dCall, xOf, sFor, dSeq, dRng1, dRng2, dI, dI0, dB0, dAdd, dIsN, dNotN, isNon, dIx, dSetL, dNeg, one, two, dLen1, dListOf1, dTupOf1, dAbs1, dIntOf1, dII, marg, dAppend1, dExtend1, dIsi, isA, dSl, dPart, dNoPart, dCut, dLc, dYes, sRaise, sTry, exBy, sPar2, sPar3, dIsBl, dNotBl, dBM, dBM0, dEq, dNe, dIn, dSgn, dIsiT2, isAny, dLenSet, dLstL, dOfE, dIxL, dCon, fLen, fTup, fSum, fMax, fMin, fAll, fAny, dEqLL, dNeLL, dLenSetL, dRefL, sTryN, exByN, goneD, withD, dXf, sRaiseF, dLc2, dEnum, dListRg1, dListRg2, dTupRg1, dTupRg2, dStrOf1, dRep, dstart, fnE_nx, fnE_rt, fnE_ex, Nat.zero_le, Nat.reduceLeDiff, decide_true, decide_false, true_or, or_true, false_or, or_false, decide_eq_true_eq, exists_eq_left', exists_eq_left, exists_eq_right, exists_eq_right', Option.some.injEq, List.cons.injEq, D.int.injEq, D.bl.injEq, D.str.injEq, D.tup.injEq, D.lro.injEq, D.ref.injEq, DO.lst.injEq, and_true, true_and, and_false, false_and, exists_false, exists_const, List.getElem?_cons_zero, List.getElem?_cons_succ, List.map_cons, List.map_nil, List.length_cons, List.length_nil, List.replicate_zero, List.replicate_succ, List.append_nil, List.cons_append, List.nil_append, List.set_cons_zero, List.set_cons_succ, Nat.reduceAdd, Nat.reduceSub, Nat.zero_add, reduceIte, Bool.false_eq_true, reduceCtorEq, if_true, if_false, Bool.not_true, Bool.not_false, exists_and_left, Bool.true_xor, Bool.false_xor, dRep2, dDGet, dDIn, dDNewK, dDNewT, sDPutD, dKyE, dKyT, keyD]
    exact endOf (q _)
end D2

set_option Elab.async false
set_option linter.all false
set_option maxRecDepth 100000
set_option maxHeartbeats 1000000
namespace D2
open PySem PySem.Spec PyProof.Rows L2
def top (i : Nat) : Stmt := PySem.Challenge.pw_callgames_k26_plays_of_tables.main.body.getD i (.Pass ⟨0, 0, 0, 0⟩)
abbrev s_is_int : Stmt := top 8
theorem sc_is_int : FnScope ["thing"] ["thing"] (defScope s_is_int) := ⟨rfl, rfl, rfl, by decide +kernel, rfl, by decide +kernel, by decide +kernel⟩
abbrev s_within : Stmt := top 9
theorem sc_within : FnScope ["thing", "low", "high"] ["thing", "low", "high"] (defScope s_within) := ⟨rfl, rfl, rfl, by decide +kernel, rfl, by decide +kernel, by decide +kernel⟩
abbrev s_is_position : Stmt := top 14
theorem sc_is_position : FnScope ["thing", "many", "owner", "mark", "nexts", "v"] ["thing", "many"] (defScope s_is_position) := ⟨rfl, rfl, rfl, by decide +kernel, rfl, by decide +kernel, by decide +kernel⟩
abbrev s_is_game : Stmt := top 15
theorem sc_is_game : FnScope ["thing", "row"] ["thing"] (defScope s_is_game) := ⟨rfl, rfl, rfl, by decide +kernel, rfl, by decide +kernel, by decide +kernel⟩
abbrev s_need_game : Stmt := top 16
theorem sc_need_game : FnScope ["game"] ["game"] (defScope s_need_game) := ⟨rfl, rfl, rfl, by decide +kernel, rfl, by decide +kernel, by decide +kernel⟩
abbrev s_need_position : Stmt := top 17
theorem sc_need_position : FnScope ["game", "position"] ["game", "position"] (defScope s_need_position) := ⟨rfl, rfl, rfl, by decide +kernel, rfl, by decide +kernel, by decide +kernel⟩
abbrev s_need_player : Stmt := top 19
theorem sc_need_player : FnScope ["player"] ["player"] (defScope s_need_player) := ⟨rfl, rfl, rfl, by decide +kernel, rfl, by decide +kernel, by decide +kernel⟩
abbrev s_is_entry : Stmt := top 22
theorem sc_is_entry : FnScope ["row", "player", "entry"] ["row", "player", "entry"] (defScope s_is_entry) := ⟨rfl, rfl, rfl, by decide +kernel, rfl, by decide +kernel, by decide +kernel⟩
abbrev s_are_entries : Stmt := top 23
theorem sc_are_entries : FnScope ["game", "player", "thing", "v"] ["game", "player", "thing"] (defScope s_are_entries) := ⟨rfl, rfl, rfl, by decide +kernel, rfl, by decide +kernel, by decide +kernel⟩
abbrev s_need_table : Stmt := top 24
theorem sc_need_table : FnScope ["game", "player", "table"] ["game", "player", "table"] (defScope s_need_table) := ⟨rfl, rfl, rfl, by decide +kernel, rfl, by decide +kernel, by decide +kernel⟩
abbrev s_need_answers : Stmt := top 25
theorem sc_need_answers : FnScope ["answers", "least", "most", "answer"] ["answers", "least", "most"] (defScope s_need_answers) := ⟨rfl, rfl, rfl, by decide +kernel, rfl, by decide +kernel, by decide +kernel⟩
abbrev s_table_play : Stmt := top 26
theorem sc_table_play : FnScope ["game", "player", "table", "start", "answers", "first", "met", "way", "v", "due", "owner", "mark", "nexts"] ["game", "player", "table", "start", "answers"] (defScope s_table_play) := ⟨rfl, rfl, rfl, by decide +kernel, rfl, by decide +kernel, by decide +kernel⟩
abbrev s__law_jug : Stmt := top 28
theorem sc__law_jug : FnScope ["script"] ["script"] (defScope s__law_jug) := ⟨rfl, rfl, rfl, by decide +kernel, rfl, by decide +kernel, by decide +kernel⟩
abbrev s__law_take : Stmt := top 29
theorem sc__law_take : FnScope ["jug", "many", "got", "at", "cell"] ["jug", "many"] (defScope s__law_take) := ⟨rfl, rfl, rfl, by decide +kernel, rfl, by decide +kernel, by decide +kernel⟩
abbrev s__law_same : Stmt := top 30
theorem sc__law_same : FnScope ["found", "due", "k"] ["found", "due"] (defScope s__law_same) := ⟨rfl, rfl, rfl, by decide +kernel, rfl, by decide +kernel, by decide +kernel⟩
abbrev s__law_marks : Stmt := top 31
theorem sc__law_marks : FnScope ["jug", "most", "found", "shape", "k", "mark"] ["jug", "most"] (defScope s__law_marks) := ⟨rfl, rfl, rfl, by decide +kernel, rfl, by decide +kernel, by decide +kernel⟩
abbrev s__law_game : Stmt := top 32
theorem sc__law_game : FnScope ["jug", "size", "marks", "width", "found", "v", "nexts", "k", "w"] ["jug", "size", "marks", "width"] (defScope s__law_game) := ⟨rfl, rfl, rfl, by decide +kernel, rfl, by decide +kernel, by decide +kernel⟩
abbrev s__law_table : Stmt := top 33
theorem sc__law_table : FnScope ["jug", "game", "player", "gaps", "found", "owner", "mark", "nexts", "entry"] ["jug", "game", "player", "gaps"] (defScope s__law_table) := ⟨rfl, rfl, rfl, by decide +kernel, rfl, by decide +kernel, by decide +kernel⟩
abbrev s__law_play : Stmt := top 34
theorem sc__law_play : FnScope ["game", "player", "table", "start", "answers", "met", "walk", "v", "k", "cut", "owner", "mark", "nexts"] ["game", "player", "table", "start", "answers"] (defScope s__law_play) := ⟨rfl, rfl, rfl, by decide +kernel, rfl, by decide +kernel, by decide +kernel⟩
abbrev s__law_told : Stmt := top 35
theorem sc__law_told : FnScope ["game", "player", "table", "start", "answers", "found"] ["game", "player", "table", "start", "answers"] (defScope s__law_told) := ⟨rfl, rfl, rfl, by decide +kernel, rfl, by decide +kernel, by decide +kernel⟩
abbrev s_law : Stmt := top 36
theorem sc_law : FnScope ["script", "jug", "turn", "game", "player", "table", "start", "answers", "bent", "odd", "k"] ["script"] (defScope s_law) := ⟨rfl, rfl, rfl, by decide +kernel, rfl, by decide +kernel, by decide +kernel⟩

theorem ok_is_int {P : Program} {w : World} {K : PySem.W.Frag} {mg : Str → Option Value} {base : Heap} (D : DefAt K mg "is_int" s_is_int) (z_isinstance : mg "isinstance" = none) (z_int : mg "int" = none) (z_bool : mg "bool" = none) : Ok P w K mg base "is_int" (1) ["thing"] sp_is_int := by
  obtain ⟨f, fd, gm, F⟩ := D.ex
  refine ⟨f, fd, Fun.okD (k := 1 - 1) F sc_is_int (len_is_int ) (pure_is_int ) (fun cdv A outer s H E hr => ?_), gm, F.kp, F.binds (ps := ["thing"]) (fun _ _ _ _ _ _ us hl => match us, hl with | [_], _ => rfl), F.lk⟩
  have nd := sc_is_int.nd
  exact (qss_one (qs_ret (qe_and (q_isi .int z_isinstance z_int (by decide +kernel) (qv 0)) (qe_one (qe_not (q_isi .bool z_isinstance z_bool (by decide +kernel) (qv 0)))))))

theorem ok_within {P : Program} {w : World} {K : PySem.W.Frag} {mg : Str → Option Value} {base : Heap} (D : DefAt K mg "within" s_within) (o_is_int : Ok P w K mg base "is_int" (1) ["thing"] sp_is_int) : Ok P w K mg base "within" (2) ["thing", "low", "high"] sp_within := by
  obtain ⟨f, fd, gm, F⟩ := D.ex
  refine ⟨f, fd, Fun.okD (k := 2 - 1) F sc_within (len_within ) (pure_within ) (fun cdv A outer s H E hr => ?_), gm, F.kp, F.binds (ps := ["thing", "low", "high"]) (fun _ _ _ _ _ _ us hl => match us, hl with | [_, _, _], _ => rfl), F.lk⟩
  have nd := sc_within.nd
  have tk : Takes (cxOf (L2.CX P w) P w K mg base ["thing", "low", "high"] "within" (defScope s_within) f cdv A outer s H E) (wE E) := takes_of rfl rfl rfl rfl
  exact (qss_one (qs_ret (qe_and (q_callO o_is_int (hr.mono (by omega)) tk (qa_cons (qv 0) qa_nil)) (qe_one (q_chain op_le op_le opd_B0 opd_B0 (qv 1) (qv 0) (qv 2))))))

theorem ok_is_position {P : Program} {w : World} {K : PySem.W.Frag} {mg : Str → Option Value} {base : Heap} (D : DefAt K mg "is_position" s_is_position) (z_isinstance : mg "isinstance" = none) (z_tuple : mg "tuple" = none) (z_len : mg "len" = none) (o_within : Ok P w K mg base "within" (2) ["thing", "low", "high"] sp_within) (o_is_int : Ok P w K mg base "is_int" (1) ["thing"] sp_is_int) (c_MOST_NEXTS : ConstOk K mg "MOST_NEXTS" (.int 1002)) (z_all : mg "all" = none) (z_set : mg "set" = none) : Ok P w K mg base "is_position" (3) ["thing", "many"] sp_is_position := by
  obtain ⟨f, fd, gm, F⟩ := D.ex
  refine ⟨f, fd, Fun.okD (k := 3 - 1) F sc_is_position (len_is_position ) (pure_is_position ) (fun cdv A outer s H E hr => ?_), gm, F.kp, F.binds (ps := ["thing", "many"]) (fun _ _ _ _ _ _ us hl => match us, hl with | [_, _], _ => rfl), F.lk⟩
  have nd := sc_is_position.nd
  have hu := hr.units
  have tk : Takes (cxOf (L2.CX P w) P w K mg base ["thing", "many", "owner", "mark", "nexts", "v"] "is_position" (defScope s_is_position) f cdv A outer s H E) (wE E) := takes_of rfl rfl rfl rfl
  exact (qss_cons (qs_if (QW.qt (qw_or (qt_not (qt_val (q_isi .tup z_isinstance z_tuple (by decide +kernel) (qv 0)))) (qw_or1 (qt_cmp (op_neD hu) opd_ne (q_callB call_len cd_len rfl z_len (by decide +kernel) (qa_cons (qv 0) qa_nil)) q_int (nomark _))))) (qss_one (qs_ret q_bl)) qss_nil)
  (qss_cons (qs_asg (qv 0) (qg_tup rfl (qgs_cons (qg_name 2 nd) (qgs_cons (qg_name 3 nd) (qgs_cons (qg_name 4 nd) qgs_nil)))))
  (qss_cons (qs_if (QW.qt (qw_or (qt_not (qt_val (q_callO o_within (hr.mono (by omega)) tk (qa_cons (qv 2) (qa_cons q_int (qa_cons q_int qa_nil)))))) (qw_or (qt_not (qt_val (q_callO o_is_int (hr.mono (by omega)) tk (qa_cons (qv 3) qa_nil)))) (qw_or1 (qt_cmp op_lt opd_B0 (qv 3) q_int (nomark _)))))) (qss_one (qs_ret q_bl)) qss_nil)
  (qss_cons (qs_if (QW.qt (qw_or (qt_not (qt_val (q_isi .tup z_isinstance z_tuple (by decide +kernel) (qv 4)))) (qw_or1 (qt_not (qt_chain op_le op_le opd_B0 opd_B0 q_int (q_callB call_len cd_len rfl z_len (by decide +kernel) (qa_cons (qv 4) qa_nil)) (q_cst c_MOST_NEXTS)))))) (qss_one (qs_ret q_bl)) qss_nil)
  (qss_one (qs_ret (qe_and (q_conB (cr_all rfl) cd_all co_all rfl z_all (by decide +kernel) (ql_of (qe_lc (own := [("v", 5)]) rfl nd (qi_seq (qv 4)) (blkOk_by (N := ["thing", "many", "owner", "mark", "nexts", "v"]) (sc := defScope s_is_position) (by decide +kernel)) (fun _ _ _ _ _ => (pg_name (i := 5) nd rfl (by first | exact Or.inl rfl | exact Or.inr rfl))) (lgo_name 5) (fun _ _ _ _ _ => qts_nil) (fun _ _ _ _ _ => (q_callO o_within (hr.mono (by omega)) takes0 (qa_cons (qv 5) (qa_cons q_int (qa_cons (q_op op_sub opd_I0 (qv 1) q_int) qa_nil)))))))) (qe_one (q_cmp (op_eqD hu) opd_eq (q_lenSet z_len z_set (qv 4)) (q_callB call_len cd_len rfl z_len (by decide +kernel) (qa_cons (qv 4) qa_nil)) (nomark _))))))))))

theorem ok_is_game {P : Program} {w : World} {K : PySem.W.Frag} {mg : Str → Option Value} {base : Heap} (D : DefAt K mg "is_game" s_is_game) (z_isinstance : mg "isinstance" = none) (z_tuple : mg "tuple" = none) (z_len : mg "len" = none) (c_MOST_POSITIONS : ConstOk K mg "MOST_POSITIONS" (.int 10000)) (o_is_position : Ok P w K mg base "is_position" (3) ["thing", "many"] sp_is_position) (z_set : mg "set" = none) (c_MOST_MARKS : ConstOk K mg "MOST_MARKS" (.int 20)) : Ok P w K mg base "is_game" (4) ["thing"] sp_is_game := by
  obtain ⟨f, fd, gm, F⟩ := D.ex
  refine ⟨f, fd, Fun.okD (k := 4 - 1) F sc_is_game (len_is_game ) (pure_is_game ) (fun cdv A outer s H E hr => ?_), gm, F.kp, F.binds (ps := ["thing"]) (fun _ _ _ _ _ _ us hl => match us, hl with | [_], _ => rfl), F.lk⟩
  have nd := sc_is_game.nd
  have tk : Takes (cxOf (L2.CX P w) P w K mg base ["thing", "row"] "is_game" (defScope s_is_game) f cdv A outer s H E) (wE E) := takes_of rfl rfl rfl rfl
  exact (qss_cons (qs_if (QW.qt (qw_or (qt_not (qt_val (q_isi .tup z_isinstance z_tuple (by decide +kernel) (qv 0)))) (qw_or1 (qt_not (qt_chain op_le op_le opd_B0 opd_B0 q_int (q_callB call_len cd_len rfl z_len (by decide +kernel) (qa_cons (qv 0) qa_nil)) (q_cst c_MOST_POSITIONS)))))) (qss_one (qs_ret q_bl)) qss_nil)
  (qss_cons (qs_for (passes_of rfl) rfl (qi_seq (qv 0)) (qg_name 1 nd)
  (qss_one (qs_if (qt_not (qt_val (q_callO o_is_position (hr.mono (by omega)) tk (qa_cons (qv 1) (qa_cons (q_callB call_len cd_len rfl z_len (by decide +kernel) (qa_cons (qv 0) qa_nil)) qa_nil))))) (qss_one (qs_ret q_bl)) qss_nil)))
  (qss_one (qs_ret (q_cmp op_le opd_B0 (q_lenSetL z_len z_set (ql_of (qe_lc (own := [("row", 1)]) rfl nd (qi_seq (qv 0)) (blkOk_by (N := ["thing", "row"]) (sc := defScope s_is_game) (by decide +kernel)) (fun _ _ _ _ _ => (pg_name (i := 1) nd rfl (by first | exact Or.inl rfl | exact Or.inr rfl))) (lgo_name 1) (fun _ _ _ _ _ => qts_nil) (fun _ _ _ _ _ => (q_ix ix_seq opd_ix (qv 1) q_int (fun _ _ => rfl)))))) (q_cst c_MOST_MARKS) (nomark _))))))

theorem ok_need_game {P : Program} {w : World} {K : PySem.W.Frag} {mg : Str → Option Value} {base : Heap} (D : DefAt K mg "need_game" s_need_game) (o_is_game : Ok P w K mg base "is_game" (4) ["thing"] sp_is_game) (x_BadGame : ExcOk K mg "BadGame") : Ok P w K mg base "need_game" (5) ["game"] sp_need_game := by
  obtain ⟨f, fd, gm, F⟩ := D.ex
  refine ⟨f, fd, Fun.okD (k := 5 - 1) F sc_need_game (len_need_game ) (pure_need_game ) (fun cdv A outer s H E hr => ?_), gm, F.kp, F.binds (ps := ["game"]) (fun _ _ _ _ _ _ us hl => match us, hl with | [_], _ => rfl), F.lk⟩
  have nd := sc_need_game.nd
  have tk : Takes (cxOf (L2.CX P w) P w K mg base ["game"] "need_game" (defScope s_need_game) f cdv A outer s H E) (wE E) := takes_of rfl rfl rfl rfl
  exact (qss_one (qs_if (qt_not (qt_val (q_callO o_is_game (hr.mono (by omega)) tk (qa_cons (qv 0) qa_nil)))) (qss_one (qs_raise rfl tk x_BadGame)) qss_nil))

theorem ok_need_position {P : Program} {w : World} {K : PySem.W.Frag} {mg : Str → Option Value} {base : Heap} (D : DefAt K mg "need_position" s_need_position) (z_len : mg "len" = none) (o_within : Ok P w K mg base "within" (2) ["thing", "low", "high"] sp_within) (x_BadPosition : ExcOk K mg "BadPosition") : Ok P w K mg base "need_position" (3) ["game", "position"] sp_need_position := by
  obtain ⟨f, fd, gm, F⟩ := D.ex
  refine ⟨f, fd, Fun.okD (k := 3 - 1) F sc_need_position (len_need_position ) (pure_need_position ) (fun cdv A outer s H E hr => ?_), gm, F.kp, F.binds (ps := ["game", "position"]) (fun _ _ _ _ _ _ us hl => match us, hl with | [_, _], _ => rfl), F.lk⟩
  have nd := sc_need_position.nd
  have tk : Takes (cxOf (L2.CX P w) P w K mg base ["game", "position"] "need_position" (defScope s_need_position) f cdv A outer s H E) (wE E) := takes_of rfl rfl rfl rfl
  exact (qss_one (qs_if (qt_not (qt_val (q_callO o_within (hr.mono (by omega)) tk (qa_cons (qv 1) (qa_cons q_int (qa_cons (q_op op_sub opd_I0 (q_callB call_len cd_len rfl z_len (by decide +kernel) (qa_cons (qv 0) qa_nil)) q_int) qa_nil)))))) (qss_one (qs_raise rfl tk x_BadPosition)) qss_nil))

theorem ok_need_player {P : Program} {w : World} {K : PySem.W.Frag} {mg : Str → Option Value} {base : Heap} (D : DefAt K mg "need_player" s_need_player) (o_within : Ok P w K mg base "within" (2) ["thing", "low", "high"] sp_within) (x_BadPlayer : ExcOk K mg "BadPlayer") : Ok P w K mg base "need_player" (3) ["player"] sp_need_player := by
  obtain ⟨f, fd, gm, F⟩ := D.ex
  refine ⟨f, fd, Fun.okD (k := 3 - 1) F sc_need_player (len_need_player ) (pure_need_player ) (fun cdv A outer s H E hr => ?_), gm, F.kp, F.binds (ps := ["player"]) (fun _ _ _ _ _ _ us hl => match us, hl with | [_], _ => rfl), F.lk⟩
  have nd := sc_need_player.nd
  have tk : Takes (cxOf (L2.CX P w) P w K mg base ["player"] "need_player" (defScope s_need_player) f cdv A outer s H E) (wE E) := takes_of rfl rfl rfl rfl
  exact (qss_one (qs_if (qt_not (qt_val (q_callO o_within (hr.mono (by omega)) tk (qa_cons (qv 0) (qa_cons q_int (qa_cons q_int qa_nil)))))) (qss_one (qs_raise rfl tk x_BadPlayer)) qss_nil))

theorem ok_is_entry {P : Program} {w : World} {K : PySem.W.Frag} {mg : Str → Option Value} {base : Heap} (D : DefAt K mg "is_entry" s_is_entry) (o_is_int : Ok P w K mg base "is_int" (1) ["thing"] sp_is_int) : Ok P w K mg base "is_entry" (2) ["row", "player", "entry"] sp_is_entry := by
  obtain ⟨f, fd, gm, F⟩ := D.ex
  refine ⟨f, fd, Fun.okD (k := 2 - 1) F sc_is_entry (len_is_entry ) (pure_is_entry ) (fun cdv A outer s H E hr => ?_), gm, F.kp, F.binds (ps := ["row", "player", "entry"]) (fun _ _ _ _ _ _ us hl => match us, hl with | [_, _, _], _ => rfl), F.lk⟩
  have nd := sc_is_entry.nd
  have hu := hr.units
  have tk : Takes (cxOf (L2.CX P w) P w K mg base ["row", "player", "entry"] "is_entry" (defScope s_is_entry) f cdv A outer s H E) (wE E) := takes_of rfl rfl rfl rfl
  exact (qss_cons (qs_if (qt_cmp op_isN opd_isN (qv 2) q_non (nomark _)) (qss_one (qs_ret q_bl)) qss_nil)
  (qss_one (qs_ret (qe_and (q_cmp (op_eqD hu) opd_eq (q_ix ix_seq opd_ix (qv 0) q_int (fun _ _ => rfl)) (qv 1) (nomark _)) (qe_and (q_callO o_is_int (hr.mono (by omega)) tk (qa_cons (qv 2) qa_nil)) (qe_one (q_cmp (op_inS.or (op_inP hu)) (opd_in false) (qv 2) (q_ix ix_seq opd_ix (qv 0) q_int (fun _ _ => rfl)) rfl)))))))

theorem ok_are_entries {P : Program} {w : World} {K : PySem.W.Frag} {mg : Str → Option Value} {base : Heap} (D : DefAt K mg "are_entries" s_are_entries) (z_isinstance : mg "isinstance" = none) (z_tuple : mg "tuple" = none) (z_len : mg "len" = none) (z_range : mg "range" = none) (o_is_entry : Ok P w K mg base "is_entry" (2) ["row", "player", "entry"] sp_is_entry) (z_all : mg "all" = none) : Ok P w K mg base "are_entries" (3) ["game", "player", "thing"] sp_are_entries := by
  obtain ⟨f, fd, gm, F⟩ := D.ex
  refine ⟨f, fd, Fun.okD (k := 3 - 1) F sc_are_entries (len_are_entries ) (pure_are_entries ) (fun cdv A outer s H E hr => ?_), gm, F.kp, F.binds (ps := ["game", "player", "thing"]) (fun _ _ _ _ _ _ us hl => match us, hl with | [_, _, _], _ => rfl), F.lk⟩
  have nd := sc_are_entries.nd
  have hu := hr.units
  exact (qss_cons (qs_if (QW.qt (qw_or (qt_not (qt_val (q_isi .tup z_isinstance z_tuple (by decide +kernel) (qv 2)))) (qw_or1 (qt_cmp (op_neD hu) opd_ne (q_callB call_len cd_len rfl z_len (by decide +kernel) (qa_cons (qv 2) qa_nil)) (q_callB call_len cd_len rfl z_len (by decide +kernel) (qa_cons (qv 0) qa_nil)) (nomark _))))) (qss_one (qs_ret q_bl)) qss_nil)
  (qss_one (qs_ret (q_conB (cr_all rfl) cd_all co_all rfl z_all (by decide +kernel) (ql_of (qe_lc (own := [("v", 3)]) rfl nd (qi_rng1 z_range (qa_cons (q_callB call_len cd_len rfl z_len (by decide +kernel) (qa_cons (qv 0) qa_nil)) qa_nil)) (blkOk_by (N := ["game", "player", "thing", "v"]) (sc := defScope s_are_entries) (by decide +kernel)) (fun _ _ _ _ _ => (pg_name (i := 3) nd rfl (by first | exact Or.inl rfl | exact Or.inr rfl))) (lgo_name 3) (fun _ _ _ _ _ => qts_nil) (fun _ _ _ _ _ => (q_callO o_is_entry (hr.mono (by omega)) takes0 (qa_cons (q_ix ix_seq opd_ix (qv 0) (qv 3) (fun _ _ => rfl)) (qa_cons (qv 1) (qa_cons (q_ix ix_seq opd_ix (qv 2) (qv 3) (fun _ _ => rfl)) qa_nil)))))))))))

theorem ok_need_table {P : Program} {w : World} {K : PySem.W.Frag} {mg : Str → Option Value} {base : Heap} (D : DefAt K mg "need_table" s_need_table) (o_need_game : Ok P w K mg base "need_game" (5) ["game"] sp_need_game) (o_need_player : Ok P w K mg base "need_player" (3) ["player"] sp_need_player) (o_are_entries : Ok P w K mg base "are_entries" (3) ["game", "player", "thing"] sp_are_entries) (x_BadTable : ExcOk K mg "BadTable") : Ok P w K mg base "need_table" (6) ["game", "player", "table"] sp_need_table := by
  obtain ⟨f, fd, gm, F⟩ := D.ex
  refine ⟨f, fd, Fun.okD (k := 6 - 1) F sc_need_table (len_need_table ) (pure_need_table ) (fun cdv A outer s H E hr => ?_), gm, F.kp, F.binds (ps := ["game", "player", "table"]) (fun _ _ _ _ _ _ us hl => match us, hl with | [_, _, _], _ => rfl), F.lk⟩
  have nd := sc_need_table.nd
  have tk : Takes (cxOf (L2.CX P w) P w K mg base ["game", "player", "table"] "need_table" (defScope s_need_table) f cdv A outer s H E) (wE E) := takes_of rfl rfl rfl rfl
  exact (qss_cons (qs_expr (q_callO o_need_game (hr.mono (by omega)) tk (qa_cons (qv 0) qa_nil)))
  (qss_cons (qs_expr (q_callO o_need_player (hr.mono (by omega)) tk (qa_cons (qv 1) qa_nil)))
  (qss_one (qs_if (qt_not (qt_val (q_callO o_are_entries (hr.mono (by omega)) tk (qa_cons (qv 0) (qa_cons (qv 1) (qa_cons (qv 2) qa_nil)))))) (qss_one (qs_raise rfl tk x_BadTable)) qss_nil))))

theorem ok_need_answers {P : Program} {w : World} {K : PySem.W.Frag} {mg : Str → Option Value} {base : Heap} (D : DefAt K mg "need_answers" s_need_answers) (z_isinstance : mg "isinstance" = none) (z_tuple : mg "tuple" = none) (z_len : mg "len" = none) (x_BadAnswers : ExcOk K mg "BadAnswers") (o_is_int : Ok P w K mg base "is_int" (1) ["thing"] sp_is_int) (z_all : mg "all" = none) : Ok P w K mg base "need_answers" (2) ["answers", "least", "most"] sp_need_answers := by
  obtain ⟨f, fd, gm, F⟩ := D.ex
  refine ⟨f, fd, Fun.okD (k := 2 - 1) F sc_need_answers (len_need_answers ) (pure_need_answers ) (fun cdv A outer s H E hr => ?_), gm, F.kp, F.binds (ps := ["answers", "least", "most"]) (fun _ _ _ _ _ _ us hl => match us, hl with | [_, _, _], _ => rfl), F.lk⟩
  have nd := sc_need_answers.nd
  have tk : Takes (cxOf (L2.CX P w) P w K mg base ["answers", "least", "most", "answer"] "need_answers" (defScope s_need_answers) f cdv A outer s H E) (wE E) := takes_of rfl rfl rfl rfl
  exact (qss_cons (qs_if (QW.qt (qw_or (qt_not (qt_val (q_isi .tup z_isinstance z_tuple (by decide +kernel) (qv 0)))) (qw_or1 (qt_not (qt_chain op_le op_le opd_B0 opd_B0 (qv 1) (q_callB call_len cd_len rfl z_len (by decide +kernel) (qa_cons (qv 0) qa_nil)) (qv 2)))))) (qss_one (qs_raise rfl tk x_BadAnswers)) qss_nil)
  (qss_one (qs_if (qt_not (qt_val (q_conB (cr_all rfl) cd_all co_all rfl z_all (by decide +kernel) (ql_of (qe_lc (own := [("answer", 3)]) rfl nd (qi_seq (qv 0)) (blkOk_by (N := ["answers", "least", "most", "answer"]) (sc := defScope s_need_answers) (by decide +kernel)) (fun _ _ _ _ _ => (pg_name (i := 3) nd rfl (by first | exact Or.inl rfl | exact Or.inr rfl))) (lgo_name 3) (fun _ _ _ _ _ => qts_nil) (fun _ _ _ _ _ => (qe_and (q_callO o_is_int (hr.mono (by omega)) takes0 (qa_cons (qv 3) qa_nil)) (qe_one (q_cmp op_ge opd_B0 (qv 3) q_int (nomark _)))))))))) (qss_one (qs_raise rfl tk x_BadAnswers)) qss_nil)))

theorem ok_table_play {P : Program} {w : World} {K : PySem.W.Frag} {mg : Str → Option Value} {base : Heap} (D : DefAt K mg "table_play" s_table_play) (o_need_table : Ok P w K mg base "need_table" (6) ["game", "player", "table"] sp_need_table) (o_need_position : Ok P w K mg base "need_position" (3) ["game", "position"] sp_need_position) (c_MOST_ANSWERS : ConstOk K mg "MOST_ANSWERS" (.int 1000)) (o_need_answers : Ok P w K mg base "need_answers" (2) ["answers", "least", "most"] sp_need_answers) (z_len : mg "len" = none) (z_tuple : mg "tuple" = none) : Ok P w K mg base "table_play" (7) ["game", "player", "table", "start", "answers"] sp_table_play := by
  obtain ⟨f, fd, gm, F⟩ := D.ex
  refine ⟨f, fd, Fun.okD (k := 7 - 1) F sc_table_play (len_table_play ) (pure_table_play ) (fun cdv A outer s H E hr => ?_), gm, F.kp, F.binds (ps := ["game", "player", "table", "start", "answers"]) (fun _ _ _ _ _ _ us hl => match us, hl with | [_, _, _, _, _], _ => rfl), F.lk⟩
  have nd := sc_table_play.nd
  have hu := hr.units
  have tk : Takes (cxOf (L2.CX P w) P w K mg base ["game", "player", "table", "start", "answers", "first", "met", "way", "v", "due", "owner", "mark", "nexts"] "table_play" (defScope s_table_play) f cdv A outer s H E) (wE E) := takes_of rfl rfl rfl rfl
  exact (qss_cons (qs_expr (q_callO o_need_table (hr.mono (by omega)) tk (qa_cons (qv 0) (qa_cons (qv 1) (qa_cons (qv 2) qa_nil)))))
  (qss_cons (qs_expr (q_callO o_need_position (hr.mono (by omega)) tk (qa_cons (qv 0) (qa_cons (qv 3) qa_nil))))
  (qss_cons (qs_expr (q_callO o_need_answers (hr.mono (by omega)) tk (qa_cons (qv 4) (qa_cons q_int (qa_cons (q_cst c_MOST_ANSWERS) qa_nil)))))
  (qss_cons (qs_asg (q_tup (qa_cons q_dnewT (qa_cons (q_lst qa_nil) (qa_cons (qv 3) (qa_cons q_int qa_nil))))) (qg_tup rfl (qgs_cons (qg_name 6 nd) (qgs_cons (qg_name 7 nd) (qgs_cons (qg_name 8 nd) (qgs_cons (qg_name 9 nd) qgs_nil))))))
  (qss_cons (qs_while (passes_of rfl) (qt_dnin hu (qk_tup (qa_cons (qv 8) (qa_cons (qv 9) qa_nil))) (qv 6))
  (qss_cons (qs_dput hu (qv 6) (qk_tup (qa_cons (qv 8) (qa_cons (qv 9) qa_nil))) (q_callB call_len cd_len rfl z_len (by decide +kernel) (qa_cons (qv 7) qa_nil)))
  (qss_cons (qs_expr (q_bm PySem.F.plainAttrs_list PySem.F.slot_list_append PySem.F.type_list_append mt_append chkL_ok md_append (qv 7) (qa_cons (qv 8) qa_nil)))
  (qss_cons (qs_asg (q_ix ix_seq opd_ix (qv 0) (qv 8) (fun _ _ => rfl)) (qg_tup rfl (qgs_cons (qg_name 10 nd) (qgs_cons (qg_name 11 nd) (qgs_cons (qg_name 12 nd) qgs_nil)))))
  (qss_one (qs_if (qt_cmp (op_neD hu) opd_ne (qv 10) (qv 1) (nomark _)) (qss_cons (qs_set (i := 8) nd (q_ix ix_seq opd_ix (qv 12) (q_op op_mod opd_I (q_ix ix_seq opd_ix (qv 4) (qv 9) (fun _ _ => rfl)) (q_callB call_len cd_len rfl z_len (by decide +kernel) (qa_cons (qv 12) qa_nil))) (fun _ _ => rfl)))
  (qss_one (qs_set (i := 9) nd (q_op op_mod opd_I (q_op op_addAll opd_add (qv 9) q_int) (q_callB call_len cd_len rfl z_len (by decide +kernel) (qa_cons (qv 4) qa_nil)))))) (qss_one (qs_if (qt_cmp op_isN opd_isN (q_ix ix_seq opd_ix (qv 2) (qv 8) (fun _ _ => rfl)) q_non (nomark _)) (qss_one (qs_ret (q_tup (qa_cons (q_callTy call_tuple_of cd_tup rfl z_tuple (by decide +kernel) (qa_cons (qv 7) qa_nil)) (qa_cons (q_tup qa_nil) qa_nil))))) (qss_one (qs_set (i := 8) nd (q_ix ix_seq opd_ix (qv 2) (qv 8) (fun _ _ => rfl))))))))))))
  (qss_cons (qs_set (i := 5) nd (q_dget hu (qv 6) (qk_tup (qa_cons (qv 8) (qa_cons (qv 9) qa_nil))) (fun _ _ => rfl)))
  (qss_one (qs_ret (q_tup (qa_cons (q_callTy call_tuple_of cd_tup rfl z_tuple (by decide +kernel) (qa_cons (q_slice sl_all slok_all (qv 7) qo_none (qo_some (qv 5))) qa_nil)) (qa_cons (q_callTy call_tuple_of cd_tup rfl z_tuple (by decide +kernel) (qa_cons (q_slice sl_all slok_all (qv 7) (qo_some (qv 5)) qo_none) qa_nil)) qa_nil)))))))))))

theorem ok__law_jug {P : Program} {w : World} {K : PySem.W.Frag} {mg : Str → Option Value} {base : Heap} (D : DefAt K mg "_law_jug" s__law_jug) (z_list : mg "list" = none) : Ok P w K mg base "_law_jug" (1) ["script"] sp_law_jug := by
  obtain ⟨f, fd, gm, F⟩ := D.ex
  refine ⟨f, fd, Fun.okD (k := 1 - 1) F sc__law_jug (len_law_jug ) (pure_law_jug ) (fun cdv A outer s H E hr => ?_), gm, F.kp, F.binds (ps := ["script"]) (fun _ _ _ _ _ _ us hl => match us, hl with | [_], _ => rfl), F.lk⟩
  have nd := sc__law_jug.nd
  exact (qss_one (qs_ret (q_lst (qa_cons (q_callTy call_list_of cd_list rfl z_list (by decide +kernel) (qa_cons (qv 0) qa_nil)) (qa_cons q_int (qa_cons q_int qa_nil))))))

theorem ok__law_take {P : Program} {w : World} {K : PySem.W.Frag} {mg : Str → Option Value} {base : Heap} (D : DefAt K mg "_law_take" s__law_take) (z_len : mg "len" = none) (z_abs : mg "abs" = none) (z_int : mg "int" = none) : Ok P w K mg base "_law_take" (1) ["jug", "many"] sp_law_take := by
  obtain ⟨f, fd, gm, F⟩ := D.ex
  refine ⟨f, fd, Fun.okD (k := 1 - 1) F sc__law_take (len_law_take ) (pure_law_take ) (fun cdv A outer s H E hr => ?_), gm, F.kp, F.binds (ps := ["jug", "many"]) (fun _ _ _ _ _ _ us hl => match us, hl with | [_, _], _ => rfl), F.lk⟩
  have nd := sc__law_take.nd
  have hu := hr.units
  exact (qss_cons (qs_if (qt_cmp (op_eqD hu) opd_eq (q_ix ix_seq opd_ix (qv 0) q_int (fun _ _ => rfl)) q_int (nomark _)) (qss_cons (qs_set (i := 3) nd (q_ix ix_seq opd_ix (qv 0) q_int (fun _ _ => rfl)))
  (qss_cons (qs_set (i := 4) nd (q_op op_addAll opd_add (q_op op_mulA opd_I q_int (qv 3)) q_int))
  (qss_cons (qs_if (qt_cmp op_lt opd_B0 (qv 3) (q_callB call_len cd_len rfl z_len (by decide +kernel) (qa_cons (q_ix ix_seq opd_ix (qv 0) q_int (fun _ _ => rfl)) qa_nil)) (nomark _)) (qss_one (qs_set (i := 4) nd (q_op op_addAll opd_add (q_op op_mulA opd_I q_int (q_callB call_abs cd_abs rfl z_abs (by decide +kernel) (qa_cons (q_ix ix_seq opd_ix (q_ix ix_seq opd_ix (qv 0) q_int (fun _ _ => rfl)) (qv 3) (fun _ _ => rfl)) qa_nil))) (q_callTy call_int1 cd_int rfl z_int (by decide +kernel) (qa_cons (q_cmp op_lt opd_B0 (q_ix ix_seq opd_ix (q_ix ix_seq opd_ix (qv 0) q_int (fun _ _ => rfl)) (qv 3) (fun _ _ => rfl)) q_int (nomark _)) qa_nil))))) qss_nil)
  (qss_cons (qs_if (qt_cmp op_lt opd_B0 (qv 4) (q_op op_powW opd_I q_int q_int) (nomark _)) (qss_one (qs_set (i := 4) nd (q_op op_mod opd_I (q_callTy call_int1 cd_int rfl z_int (by decide +kernel) (qa_cons (q_op op_powW opd_I (q_op op_addAll opd_add (q_op op_addAll opd_add (q_op op_mulA opd_I (qv 4) q_int) (q_op op_mulA opd_I (qv 3) q_int)) q_int) q_int) qa_nil)) q_int))) qss_nil)
  (qss_cons (qs_asg (q_op op_addAll opd_add (qv 3) q_int) (qg_sub (qv 0) q_int set_list set_d))
  (qss_one (qs_asg (qv 4) (qg_sub (qv 0) q_int set_list set_d)))))))) qss_nil)
  (qss_cons (qs_set (i := 2) nd (q_op op_mod opd_I (q_callTy call_int1 cd_int rfl z_int (by decide +kernel) (qa_cons (q_ix ix_seq opd_ix (qv 0) q_int (fun _ _ => rfl)) qa_nil)) (qv 1)))
  (qss_cons (qs_asg (q_op op_fdivW opd_I (q_ix ix_seq opd_ix (qv 0) q_int (fun _ _ => rfl)) (qv 1)) (qg_sub (qv 0) q_int set_list set_d))
  (qss_one (qs_ret (qv 2))))))

theorem ok__law_same (n : Nat) {P : Program} {w : World} {K : PySem.W.Frag} {mg : Str → Option Value} {base : Heap} (D : DefAt K mg "_law_same" s__law_same) (z_isinstance : mg "isinstance" = none) (z_tuple : mg "tuple" = none) (z_len : mg "len" = none) (z_range : mg "range" = none) (o__law_same : Ok P w K mg base "_law_same" (n) ["found", "due"] (sp_law_same n)) (z_bool : mg "bool" = none) (z_str : mg "str" = none) (z_int : mg "int" = none) : Ok P w K mg base "_law_same" (n + 1) ["found", "due"] (sp_law_same (n + 1)) := by
  obtain ⟨f, fd, gm, F⟩ := D.ex
  refine ⟨f, fd, Fun.okD (k := n) F sc__law_same (len_law_same n) (pure_law_same n) (fun cdv A outer s H E hr => ?_), gm, F.kp, F.binds (ps := ["found", "due"]) (fun _ _ _ _ _ _ us hl => match us, hl with | [_, _], _ => rfl), F.lk⟩
  have nd := sc__law_same.nd
  have hu := hr.units
  exact (qss_cons (qs_if (QW.qt (qw_or (qt_cmp op_isN opd_isN (qv 1) q_non (nomark _)) (qw_or1 (qt_cmp op_isN opd_isN (qv 0) q_non (nomark _))))) (qss_one (qs_ret (qe_and (q_cmp op_isN opd_isN (qv 0) q_non (nomark _)) (qe_one (q_cmp op_isN opd_isN (qv 1) q_non (nomark _)))))) qss_nil)
  (qss_cons (qs_if (qt_val (q_isi .tup z_isinstance z_tuple (by decide +kernel) (qv 1))) (qss_cons (qs_if (QW.qt (qw_or (qt_not (qt_val (q_isi .tup z_isinstance z_tuple (by decide +kernel) (qv 0)))) (qw_or1 (qt_cmp (op_neD hu) opd_ne (q_callB call_len cd_len rfl z_len (by decide +kernel) (qa_cons (qv 0) qa_nil)) (q_callB call_len cd_len rfl z_len (by decide +kernel) (qa_cons (qv 1) qa_nil)) (nomark _))))) (qss_one (qs_ret q_bl)) qss_nil)
  (qss_one (qs_ret (q_eqLL hu (ql_of (qe_lc (own := [("k", 2)]) rfl nd (qi_rng1 z_range (qa_cons (q_callB call_len cd_len rfl z_len (by decide +kernel) (qa_cons (qv 1) qa_nil)) qa_nil)) (blkOk_by (N := ["found", "due", "k"]) (sc := defScope s__law_same) (by decide +kernel)) (fun _ _ _ _ _ => (pg_name (i := 2) nd rfl (by first | exact Or.inl rfl | exact Or.inr rfl))) (lgo_name 2) (fun _ _ _ _ _ => (qts_one (qt_not (qt_val (q_callO o__law_same (hr.mono (by omega)) takes0 (qa_cons (q_ix ix_seq opd_ix (qv 0) (qv 2) (fun _ _ => rfl)) (qa_cons (q_ix ix_seq opd_ix (qv 1) (qv 2) (fun _ _ => rfl)) qa_nil))))))) (fun _ _ _ _ _ => (qv 2)))) (ql_lst qa_nil))))) qss_nil)
  (qss_cons (qs_if (QW.qt (qw_or (qt_cmp (op_neD hu) opd_ne (q_isi .bool z_isinstance z_bool (by decide +kernel) (qv 0)) (q_isi .bool z_isinstance z_bool (by decide +kernel) (qv 1)) (nomark _)) (qw_or1 (qt_cmp (op_neD hu) opd_ne (q_isi .str z_isinstance z_str (by decide +kernel) (qv 0)) (q_isi .str z_isinstance z_str (by decide +kernel) (qv 1)) (nomark _))))) (qss_one (qs_ret q_bl)) qss_nil)
  (qss_one (qs_ret (qe_and (q_isiT2 .int .str z_isinstance z_int z_str (by decide +kernel) (by decide +kernel) (qv 0)) (qe_one (q_cmp (op_eqD hu) opd_eq (qv 0) (qv 1) (nomark _)))))))))
theorem ok0__law_same {P : Program} {w : World} {K : PySem.W.Frag} {mg : Str → Option Value} {base : Heap} (D : DefAt K mg "_law_same" s__law_same) : Ok P w K mg base "_law_same" 0 ["found", "due"] (sp_law_same 0) := by
  obtain ⟨f, fd, gm, F⟩ := D.ex
  refine ⟨f, fd, ⟨fun vs H Q E h => ?_, fun A outer s H args us vs Q E _ _ _ _ h => ?_⟩, gm, F.kp, F.binds (ps := ["found", "due"]) (fun _ _ _ _ _ _ us hl => match us, hl with | [_, _], _ => rfl), F.lk⟩
  all_goals exact (liftSp_no (fun _ _ _ _ h => h.elim) h).elim

theorem ok__law_marks {P : Program} {w : World} {K : PySem.W.Frag} {mg : Str → Option Value} {base : Heap} (D : DefAt K mg "_law_marks" s__law_marks) (o__law_take : Ok P w K mg base "_law_take" (1) ["jug", "many"] sp_law_take) (z_range : mg "range" = none) : Ok P w K mg base "_law_marks" (2) ["jug", "most"] sp_law_marks := by
  obtain ⟨f, fd, gm, F⟩ := D.ex
  refine ⟨f, fd, Fun.okD (k := 2 - 1) F sc__law_marks (len_law_marks ) (pure_law_marks ) (fun cdv A outer s H E hr => ?_), gm, F.kp, F.binds (ps := ["jug", "most"]) (fun _ _ _ _ _ _ us hl => match us, hl with | [_, _], _ => rfl), F.lk⟩
  have nd := sc__law_marks.nd
  have hu := hr.units
  have tk : Takes (cxOf (L2.CX P w) P w K mg base ["jug", "most", "found", "shape", "k", "mark"] "_law_marks" (defScope s__law_marks) f cdv A outer s H E) (wE E) := takes_of rfl rfl rfl rfl
  exact (qss_cons (qs_set (i := 2) nd (q_lst qa_nil))
  (qss_cons (qs_set (i := 3) nd (q_callO o__law_take (hr.mono (by omega)) tk (qa_cons (qv 0) (qa_cons q_int qa_nil))))
  (qss_cons (qs_for (passes_of rfl) rfl (qi_rng1 z_range (qa_cons (q_op op_addAll opd_add q_int (q_callO o__law_take (hr.mono (by omega)) tk (qa_cons (qv 0) (qa_cons (qv 1) qa_nil)))) qa_nil)) (qg_name 4 nd)
  (qss_cons (qs_set (i := 5) nd (q_ixL (ql_lst (qa_cons (q_callO o__law_take (hr.mono (by omega)) tk (qa_cons (qv 0) (qa_cons q_int qa_nil))) (qa_cons (q_op op_mulA opd_I (q_callO o__law_take (hr.mono (by omega)) tk (qa_cons (qv 0) (qa_cons q_int qa_nil))) q_int) (qa_cons (q_op op_addAll opd_add (q_op op_powW opd_I q_int q_int) (q_callO o__law_take (hr.mono (by omega)) tk (qa_cons (qv 0) (qa_cons (q_op op_powW opd_I q_int q_int) qa_nil)))) (qa_cons (q_callO o__law_take (hr.mono (by omega)) tk (qa_cons (qv 0) (qa_cons q_int qa_nil))) qa_nil))))) (qv 3) (fun _ _ => rfl)))
  (qss_one (qs_if (qt_cmp (op_ninS.or (op_ninP hu)) (opd_in true) (qv 5) (qv 2) rfl) (qss_one (qs_expr (q_bm PySem.F.plainAttrs_list PySem.F.slot_list_append PySem.F.type_list_append mt_append chkL_ok md_append (qv 2) (qa_cons (qv 5) qa_nil)))) qss_nil))))
  (qss_one (qs_ret (qv 2))))))

theorem ok__law_game {P : Program} {w : World} {K : PySem.W.Frag} {mg : Str → Option Value} {base : Heap} (D : DefAt K mg "_law_game" s__law_game) (z_range : mg "range" = none) (o__law_take : Ok P w K mg base "_law_take" (1) ["jug", "many"] sp_law_take) (z_tuple : mg "tuple" = none) (z_len : mg "len" = none) : Ok P w K mg base "_law_game" (2) ["jug", "size", "marks", "width"] sp_law_game := by
  obtain ⟨f, fd, gm, F⟩ := D.ex
  refine ⟨f, fd, Fun.okD (k := 2 - 1) F sc__law_game (len_law_game ) (pure_law_game ) (fun cdv A outer s H E hr => ?_), gm, F.kp, F.binds (ps := ["jug", "size", "marks", "width"]) (fun _ _ _ _ _ _ us hl => match us, hl with | [_, _, _, _], _ => rfl), F.lk⟩
  have nd := sc__law_game.nd
  have hu := hr.units
  have tk : Takes (cxOf (L2.CX P w) P w K mg base ["jug", "size", "marks", "width", "found", "v", "nexts", "k", "w"] "_law_game" (defScope s__law_game) f cdv A outer s H E) (wE E) := takes_of rfl rfl rfl rfl
  exact (qss_cons (qs_set (i := 4) nd (q_lst qa_nil))
  (qss_cons (qs_for (passes_of rfl) rfl (qi_rng1 z_range (qa_cons (qv 1) qa_nil)) (qg_name 5 nd)
  (qss_cons (qs_set (i := 6) nd (q_lst qa_nil))
  (qss_cons (qs_for (passes_of rfl) rfl (qi_rng1 z_range (qa_cons (q_op op_addAll opd_add q_int (q_callO o__law_take (hr.mono (by omega)) tk (qa_cons (qv 0) (qa_cons (qv 3) qa_nil)))) qa_nil)) (qg_name 7 nd)
  (qss_cons (qs_set (i := 8) nd (q_callO o__law_take (hr.mono (by omega)) tk (qa_cons (qv 0) (qa_cons (qv 1) qa_nil))))
  (qss_one (qs_if (qt_cmp (op_ninS.or (op_ninP hu)) (opd_in true) (qv 8) (qv 6) rfl) (qss_one (qs_expr (q_bm PySem.F.plainAttrs_list PySem.F.slot_list_append PySem.F.type_list_append mt_append chkL_ok md_append (qv 6) (qa_cons (qv 8) qa_nil)))) qss_nil))))
  (qss_one (qs_expr (q_bm PySem.F.plainAttrs_list PySem.F.slot_list_append PySem.F.type_list_append mt_append chkL_ok md_append (qv 4) (qa_cons (q_tup (qa_cons (q_callO o__law_take (hr.mono (by omega)) tk (qa_cons (qv 0) (qa_cons q_int qa_nil))) (qa_cons (q_ix ix_seq opd_ix (qv 2) (q_callO o__law_take (hr.mono (by omega)) tk (qa_cons (qv 0) (qa_cons (q_callB call_len cd_len rfl z_len (by decide +kernel) (qa_cons (qv 2) qa_nil)) qa_nil))) (fun _ _ => rfl)) (qa_cons (q_callTy call_tuple_of cd_tup rfl z_tuple (by decide +kernel) (qa_cons (qv 6) qa_nil)) qa_nil)))) qa_nil)))))))
  (qss_one (qs_ret (q_callTy call_tuple_of cd_tup rfl z_tuple (by decide +kernel) (qa_cons (qv 4) qa_nil))))))

theorem ok__law_play {P : Program} {w : World} {K : PySem.W.Frag} {mg : Str → Option Value} {base : Heap} (D : DefAt K mg "_law_play" s__law_play) (z_len : mg "len" = none) (z_tuple : mg "tuple" = none) (z_int : mg "int" = none) : Ok P w K mg base "_law_play" (1) ["game", "player", "table", "start", "answers"] sp_law_play := by
  obtain ⟨f, fd, gm, F⟩ := D.ex
  refine ⟨f, fd, Fun.okD (k := 1 - 1) F sc__law_play (len_law_play ) (pure_law_play ) (fun cdv A outer s H E hr => ?_), gm, F.kp, F.binds (ps := ["game", "player", "table", "start", "answers"]) (fun _ _ _ _ _ _ us hl => match us, hl with | [_, _, _, _, _], _ => rfl), F.lk⟩
  have nd := sc__law_play.nd
  have hu := hr.units
  exact (qss_cons (qs_set (i := 5) nd q_dnewT)
  (qss_cons (qs_set (i := 6) nd (q_lst qa_nil))
  (qss_cons (qs_set (i := 7) nd (qv 3))
  (qss_cons (qs_set (i := 8) nd q_int)
  (qss_cons (qs_while (passes_of rfl) (qt_dnin hu (qk_tup (qa_cons (qv 7) (qa_cons (qv 8) qa_nil))) (qv 5))
  (qss_cons (qs_dput hu (qv 5) (qk_tup (qa_cons (qv 7) (qa_cons (qv 8) qa_nil))) (q_callB call_len cd_len rfl z_len (by decide +kernel) (qa_cons (qv 6) qa_nil)))
  (qss_cons (qs_expr (q_bm PySem.F.plainAttrs_list PySem.F.slot_list_append PySem.F.type_list_append mt_append chkL_ok md_append (qv 6) (qa_cons (qv 7) qa_nil)))
  (qss_cons (qs_asg (q_ix ix_seq opd_ix (qv 0) (qv 7) (fun _ _ => rfl)) (qg_tup rfl (qgs_cons (qg_name 10 nd) (qgs_cons (qg_name 11 nd) (qgs_cons (qg_name 12 nd) qgs_nil)))))
  (qss_one (qs_if (qt_cmp (op_eqD hu) opd_eq (qv 10) (qv 1) (nomark _)) (qss_cons (qs_if (qt_cmp op_isN opd_isN (q_ix ix_seq opd_ix (qv 2) (qv 7) (fun _ _ => rfl)) q_non (nomark _)) (qss_one (qs_ret (q_tup (qa_cons (q_callTy call_tuple_of cd_tup rfl z_tuple (by decide +kernel) (qa_cons (qv 6) qa_nil)) (qa_cons (q_tup qa_nil) qa_nil))))) qss_nil)
  (qss_one (qs_set (i := 7) nd (q_ix ix_seq opd_ix (qv 2) (qv 7) (fun _ _ => rfl))))) (qss_cons (qs_set (i := 7) nd (q_ix ix_seq opd_ix (qv 12) (q_op op_mod opd_I (q_callTy call_int1 cd_int rfl z_int (by decide +kernel) (qa_cons (q_ix ix_seq opd_ix (qv 4) (qv 8) (fun _ _ => rfl)) qa_nil)) (q_callB call_len cd_len rfl z_len (by decide +kernel) (qa_cons (qv 12) qa_nil))) (fun _ _ => rfl)))
  (qss_one (qs_set (i := 8) nd (q_op op_mod opd_I (q_callTy call_int1 cd_int rfl z_int (by decide +kernel) (qa_cons (q_op op_addAll opd_add (qv 8) q_int) qa_nil)) (q_callB call_len cd_len rfl z_len (by decide +kernel) (qa_cons (qv 4) qa_nil))))))))))))
  (qss_cons (qs_set (i := 9) nd (q_dget hu (qv 5) (qk_tup (qa_cons (qv 7) (qa_cons (qv 8) qa_nil))) (fun _ _ => rfl)))
  (qss_one (qs_ret (q_tup (qa_cons (q_callTy call_tuple_of cd_tup rfl z_tuple (by decide +kernel) (qa_cons (q_slice sl_all slok_all (qv 6) qo_none (qo_some (qv 9))) qa_nil)) (qa_cons (q_callTy call_tuple_of cd_tup rfl z_tuple (by decide +kernel) (qa_cons (q_slice sl_all slok_all (qv 6) (qo_some (qv 9)) qo_none) qa_nil)) qa_nil)))))))))))

theorem ok__law_table {P : Program} {w : World} {K : PySem.W.Frag} {mg : Str → Option Value} {base : Heap} (D : DefAt K mg "_law_table" s__law_table) (z_len : mg "len" = none) (o__law_take : Ok P w K mg base "_law_take" (1) ["jug", "many"] sp_law_take) (z_tuple : mg "tuple" = none) : Ok P w K mg base "_law_table" (2) ["jug", "game", "player", "gaps"] sp_law_table := by
  obtain ⟨f, fd, gm, F⟩ := D.ex
  refine ⟨f, fd, Fun.okD (k := 2 - 1) F sc__law_table (len_law_table ) (pure_law_table ) (fun cdv A outer s H E hr => ?_), gm, F.kp, F.binds (ps := ["jug", "game", "player", "gaps"]) (fun _ _ _ _ _ _ us hl => match us, hl with | [_, _, _, _], _ => rfl), F.lk⟩
  have nd := sc__law_table.nd
  have hu := hr.units
  have tk : Takes (cxOf (L2.CX P w) P w K mg base ["jug", "game", "player", "gaps", "found", "owner", "mark", "nexts", "entry"] "_law_table" (defScope s__law_table) f cdv A outer s H E) (wE E) := takes_of rfl rfl rfl rfl
  exact (qss_cons (qs_set (i := 4) nd (q_lst qa_nil))
  (qss_cons (qs_for (passes_of rfl) rfl (qi_seq (qv 1)) (qg_tup rfl (qgs_cons (qg_name 5 nd) (qgs_cons (qg_name 6 nd) (qgs_cons (qg_name 7 nd) qgs_nil))))
  (qss_cons (qs_set (i := 8) nd (q_ix ix_seq opd_ix (qv 7) (q_callO o__law_take (hr.mono (by omega)) tk (qa_cons (qv 0) (qa_cons (q_callB call_len cd_len rfl z_len (by decide +kernel) (qa_cons (qv 7) qa_nil)) qa_nil))) (fun _ _ => rfl)))
  (qss_cons (qs_if (QW.qt (qw_or (qt_cmp (op_neD hu) opd_ne (qv 5) (qv 2) (nomark _)) (qw_or1 (QW.qt (qw_and (qt_val (qv 3)) (qw_and1 (qt_cmp (op_eqD hu) opd_eq (q_callO o__law_take (hr.mono (by omega)) tk (qa_cons (qv 0) (qa_cons q_int qa_nil))) q_int (nomark _)))))))) (qss_one (qs_set (i := 8) nd q_non)) qss_nil)
  (qss_one (qs_expr (q_bm PySem.F.plainAttrs_list PySem.F.slot_list_append PySem.F.type_list_append mt_append chkL_ok md_append (qv 4) (qa_cons (qv 8) qa_nil)))))))
  (qss_one (qs_ret (q_callTy call_tuple_of cd_tup rfl z_tuple (by decide +kernel) (qa_cons (qv 4) qa_nil))))))

theorem ok__law_told {P : Program} {w : World} {K : PySem.W.Frag} {mg : Str → Option Value} {base : Heap} (D : DefAt K mg "_law_told" s__law_told) (o_table_play : Ok P w K mg base "table_play" (7) ["game", "player", "table", "start", "answers"] sp_table_play) (m_BadAnswers : ClsAt mg "BadAnswers") (m_GameError : ClsAt mg "GameError") (so : SubOk K mg subT) : Ok P w K mg base "_law_told" (8) ["game", "player", "table", "start", "answers"] sp_law_told := by
  obtain ⟨f, fd, gm, F⟩ := D.ex
  refine ⟨f, fd, Fun.okD (k := 8 - 1) F sc__law_told (len_law_told ) (pure_law_told ) (fun cdv A outer s H E hr => ?_), gm, F.kp, F.binds (ps := ["game", "player", "table", "start", "answers"]) (fun _ _ _ _ _ _ us hl => match us, hl with | [_, _, _, _, _], _ => rfl), F.lk⟩
  have nd := sc__law_told.nd
  have tk : Takes (cxOf (L2.CX P w) P w K mg base ["game", "player", "table", "start", "answers", "found"] "_law_told" (defScope s__law_told) f cdv A outer s H E) (wE E) := takes_of rfl rfl rfl rfl
  exact (qss_cons (qs_set (i := 5) nd q_non)
  (qss_cons (qs_try rfl rfl tk so (fun _ _ _ tk2 hp2 => (qss_one (qs_set (i := 5) nd (q_callO o_table_play (hr.mono (by omega)) tk2 (qa_cons (qv 0) (qa_cons (qv 1) (qa_cons (qv 2) (qa_cons (qv 3) (qa_cons (qv 4) qa_nil)))))))))
  (.cons m_BadAnswers.choose_spec (fun _ _ _ => (qss_one (qs_set (i := 5) nd q_str))) (.cons m_GameError.choose_spec (fun _ _ _ => (qss_one (qs_set (i := 5) nd q_str))) QHds.nil)))
  (qss_one (qs_ret (qv 5)))))

theorem ok_law {P : Program} {w : World} {K : PySem.W.Frag} {mg : Str → Option Value} {base : Heap} (D : DefAt K mg "law" s_law) (o__law_jug : Ok P w K mg base "_law_jug" (1) ["script"] sp_law_jug) (z_range : mg "range" = none) (z_len : mg "len" = none) (z_min : mg "min" = none) (o__law_take : Ok P w K mg base "_law_take" (1) ["jug", "many"] sp_law_take) (o__law_marks : Ok P w K mg base "_law_marks" (2) ["jug", "most"] sp_law_marks) (o__law_game : Ok P w K mg base "_law_game" (2) ["jug", "size", "marks", "width"] sp_law_game) (o__law_table : Ok P w K mg base "_law_table" (2) ["jug", "game", "player", "gaps"] sp_law_table) (z_tuple : mg "tuple" = none) (o__law_play : Ok P w K mg base "_law_play" (1) ["game", "player", "table", "start", "answers"] sp_law_play) (o__law_told : Ok P w K mg base "_law_told" (8) ["game", "player", "table", "start", "answers"] sp_law_told) (o__law_same : Ok P w K mg base "_law_same" (12) ["found", "due"] (sp_law_same 4)) (z_list : mg "list" = none) : Ok P w K mg base "law" (13) ["script"] sp_law := by
  obtain ⟨f, fd, gm, F⟩ := D.ex
  refine ⟨f, fd, Fun.okD (k := 13 - 1) F sc_law (len_law ) (pure_law ) (fun cdv A outer s H E hr => ?_), gm, F.kp, F.binds (ps := ["script"]) (fun _ _ _ _ _ _ us hl => match us, hl with | [_], _ => rfl), F.lk⟩
  have nd := sc_law.nd
  have hu := hr.units
  have tk : Takes (cxOf (L2.CX P w) P w K mg base ["script", "jug", "turn", "game", "player", "table", "start", "answers", "bent", "odd", "k"] "law" (defScope s_law) f cdv A outer s H E) (wE E) := takes_of rfl rfl rfl rfl
  exact (qss_cons (qs_set (i := 1) nd (q_callO o__law_jug (hr.mono (by omega)) tk (qa_cons (qv 0) qa_nil)))
  (qss_cons (qs_for (passes_of rfl) rfl (qi_rng1 z_range (qa_cons (q_op op_addAll opd_add q_int (q_callB (call_min2 rfl) cd_min2 rfl z_min (by decide +kernel) (qa_cons (q_callB call_len cd_len rfl z_len (by decide +kernel) (qa_cons (qv 0) qa_nil)) (qa_cons q_int qa_nil)))) qa_nil)) (qg_name 2 nd)
  (qss_cons (qs_set (i := 3) nd (q_callO o__law_game (hr.mono (by omega)) tk (qa_cons (qv 1) (qa_cons (q_op op_addAll opd_add q_int (q_callO o__law_take (hr.mono (by omega)) tk (qa_cons (qv 1) (qa_cons q_int qa_nil)))) (qa_cons (q_callO o__law_marks (hr.mono (by omega)) tk (qa_cons (qv 1) (qa_cons q_int qa_nil))) (qa_cons (q_op op_addAll opd_add q_int (q_callO o__law_take (hr.mono (by omega)) tk (qa_cons (qv 1) (qa_cons q_int qa_nil)))) qa_nil))))))
  (qss_cons (qs_set (i := 4) nd (q_callO o__law_take (hr.mono (by omega)) tk (qa_cons (qv 1) (qa_cons q_int qa_nil))))
  (qss_cons (qs_set (i := 5) nd (q_callO o__law_table (hr.mono (by omega)) tk (qa_cons (qv 1) (qa_cons (qv 3) (qa_cons (qv 4) (qa_cons (q_cmp (op_eqD hu) opd_eq (q_callO o__law_take (hr.mono (by omega)) tk (qa_cons (qv 1) (qa_cons q_int qa_nil))) q_int (nomark _)) qa_nil))))))
  (qss_cons (qs_set (i := 6) nd (q_callO o__law_take (hr.mono (by omega)) tk (qa_cons (qv 1) (qa_cons (q_callB call_len cd_len rfl z_len (by decide +kernel) (qa_cons (qv 3) qa_nil)) qa_nil))))
  (qss_cons (qs_set (i := 7) nd (q_conTy call_tuple_of cd_tup co_tup rfl z_tuple (by decide +kernel) (ql_of (qe_lc (own := [("k", 10)]) rfl nd (qi_rng1 z_range (qa_cons (q_op op_addAll opd_add q_int (q_callO o__law_take (hr.mono (by omega)) tk (qa_cons (qv 1) (qa_cons q_int qa_nil)))) qa_nil)) (blkOk_by (N := ["script", "jug", "turn", "game", "player", "table", "start", "answers", "bent", "odd", "k"]) (sc := defScope s_law) (by decide +kernel)) (fun _ _ _ _ _ => (pg_name (i := 10) nd rfl (by first | exact Or.inl rfl | exact Or.inr rfl))) (lgo_name 10) (fun _ _ _ _ _ => qts_nil) (fun _ _ _ _ _ => (q_callO o__law_take (hr.mono (by omega)) takes0 (qa_cons (qv 1) (qa_cons (q_ixL (ql_lst (qa_cons q_int (qa_cons (q_op op_powW opd_I q_int q_int) qa_nil))) (q_callO o__law_take (hr.mono (by omega)) takes0 (qa_cons (qv 1) (qa_cons q_int qa_nil))) (fun _ _ => rfl)) qa_nil))))))))
  (qss_cons (qs_if (qt_cmp (op_eqD hu) opd_eq (q_callO o__law_take (hr.mono (by omega)) tk (qa_cons (qv 1) (qa_cons q_int qa_nil))) q_int (nomark _)) (qss_one (qs_set (i := 7) nd (q_slice sl_all slok_all (q_op op_repAll2 opd_rep2 (qv 7) q_int) qo_none (qo_some q_int)))) qss_nil)
  (qss_cons (qs_if (qt_not (qt_val (q_callO o__law_same (hr.mono (by omega)) tk (qa_cons (q_callO o__law_told (hr.mono (by omega)) tk (qa_cons (qv 3) (qa_cons (qv 4) (qa_cons (qv 5) (qa_cons (qv 6) (qa_cons (qv 7) qa_nil)))))) (qa_cons (q_callO o__law_play (hr.mono (by omega)) tk (qa_cons (qv 3) (qa_cons (qv 4) (qa_cons (qv 5) (qa_cons (qv 6) (qa_cons (qv 7) qa_nil)))))) qa_nil))))) (qss_one (qs_ret q_bl)) qss_nil)
  (qss_cons (qs_set (i := 8) nd (q_op op_addAll opd_add (q_op op_addAll opd_add (q_slice sl_all slok_all (qv 7) qo_none (qo_some q_int)) (q_tup (qa_cons (q_op op_sub opd_I0 (q_un un_neg und_neg q_int) (q_callO o__law_take (hr.mono (by omega)) tk (qa_cons (qv 1) (qa_cons q_int qa_nil)))) qa_nil))) (q_slice sl_all slok_all (qv 7) (qo_some q_int) qo_none)))
  (qss_cons (qs_set (i := 9) nd (q_ixL (ql_lst (qa_cons (q_tup qa_nil) (qa_cons (q_callTy call_list_of cd_list rfl z_list (by decide +kernel) (qa_cons (qv 7) qa_nil)) (qa_cons (qv 8) (qa_cons (q_slice sl_all slok_all (q_op op_repAll2 opd_rep2 (qv 7) q_int) qo_none (qo_some q_int)) (qa_cons (q_tup (qa_cons q_bl qa_nil)) (qa_cons (q_tup (qa_cons q_non qa_nil)) (qa_cons q_non (qa_cons q_int qa_nil))))))))) (q_callO o__law_take (hr.mono (by omega)) tk (qa_cons (qv 1) (qa_cons q_int qa_nil))) (fun _ _ => rfl)))
  (qss_one (qs_if (qt_cmp (op_neD hu) opd_ne (q_callO o__law_told (hr.mono (by omega)) tk (qa_cons (qv 3) (qa_cons (qv 4) (qa_cons (qv 5) (qa_cons (qv 6) (qa_cons (qv 9) qa_nil)))))) q_str (nomark _)) (qss_one (qs_ret q_bl)) qss_nil))))))))))))
  (qss_one (qs_ret q_bl))))

theorem law_holds : ∀ (ns : List Int), ns.length ≤ 63 → ∀ L : DH, (∀ b, L b = none) → sp_law [.lro (ns.map .int)] L (fun d _ => d = .bl true) (fun _ _ _ => False) := fun ns hl L _ => ⟨ns, rfl, hl, fun _ => rfl⟩
theorem all_mk {l : PySem.W.OpenLaw} {w : World} {K : PySem.W.Frag} {h : Heap} {mg : Str → Option Value} {fa : Addr} (X : K.In h) (G : h.Ns mainGlobals mg) (hfa : mg "law" = some (.ref fa))
    {fis_int : Addr} {ocis_int kVis_int dcis_int pmis_int cdis_int ctis_int : Value} {odis_int anis_int : Option Addr} {slis_int : Array (Option Value)}
    {fwithin : Addr} {ocwithin kVwithin dcwithin pmwithin cdwithin ctwithin : Value} {odwithin anwithin : Option Addr} {slwithin : Array (Option Value)}
    {fis_position : Addr} {ocis_position kVis_position dcis_position pmis_position cdis_position ctis_position : Value} {odis_position anis_position : Option Addr} {slis_position : Array (Option Value)}
    {fis_game : Addr} {ocis_game kVis_game dcis_game pmis_game cdis_game ctis_game : Value} {odis_game anis_game : Option Addr} {slis_game : Array (Option Value)}
    {fneed_game : Addr} {ocneed_game kVneed_game dcneed_game pmneed_game cdneed_game ctneed_game : Value} {odneed_game anneed_game : Option Addr} {slneed_game : Array (Option Value)}
    {fneed_position : Addr} {ocneed_position kVneed_position dcneed_position pmneed_position cdneed_position ctneed_position : Value} {odneed_position anneed_position : Option Addr} {slneed_position : Array (Option Value)}
    {fneed_player : Addr} {ocneed_player kVneed_player dcneed_player pmneed_player cdneed_player ctneed_player : Value} {odneed_player anneed_player : Option Addr} {slneed_player : Array (Option Value)}
    {fis_entry : Addr} {ocis_entry kVis_entry dcis_entry pmis_entry cdis_entry ctis_entry : Value} {odis_entry anis_entry : Option Addr} {slis_entry : Array (Option Value)}
    {fare_entries : Addr} {ocare_entries kVare_entries dcare_entries pmare_entries cdare_entries ctare_entries : Value} {odare_entries anare_entries : Option Addr} {slare_entries : Array (Option Value)}
    {fneed_table : Addr} {ocneed_table kVneed_table dcneed_table pmneed_table cdneed_table ctneed_table : Value} {odneed_table anneed_table : Option Addr} {slneed_table : Array (Option Value)}
    {fneed_answers : Addr} {ocneed_answers kVneed_answers dcneed_answers pmneed_answers cdneed_answers ctneed_answers : Value} {odneed_answers anneed_answers : Option Addr} {slneed_answers : Array (Option Value)}
    {ftable_play : Addr} {octable_play kVtable_play dctable_play pmtable_play cdtable_play cttable_play : Value} {odtable_play antable_play : Option Addr} {sltable_play : Array (Option Value)}
    {f_law_jug : Addr} {oc_law_jug kV_law_jug dc_law_jug pm_law_jug cd_law_jug ct_law_jug : Value} {od_law_jug an_law_jug : Option Addr} {sl_law_jug : Array (Option Value)}
    {f_law_take : Addr} {oc_law_take kV_law_take dc_law_take pm_law_take cd_law_take ct_law_take : Value} {od_law_take an_law_take : Option Addr} {sl_law_take : Array (Option Value)}
    {f_law_same : Addr} {oc_law_same kV_law_same dc_law_same pm_law_same cd_law_same ct_law_same : Value} {od_law_same an_law_same : Option Addr} {sl_law_same : Array (Option Value)}
    {f_law_marks : Addr} {oc_law_marks kV_law_marks dc_law_marks pm_law_marks cd_law_marks ct_law_marks : Value} {od_law_marks an_law_marks : Option Addr} {sl_law_marks : Array (Option Value)}
    {f_law_game : Addr} {oc_law_game kV_law_game dc_law_game pm_law_game cd_law_game ct_law_game : Value} {od_law_game an_law_game : Option Addr} {sl_law_game : Array (Option Value)}
    {f_law_table : Addr} {oc_law_table kV_law_table dc_law_table pm_law_table cd_law_table ct_law_table : Value} {od_law_table an_law_table : Option Addr} {sl_law_table : Array (Option Value)}
    {f_law_play : Addr} {oc_law_play kV_law_play dc_law_play pm_law_play cd_law_play ct_law_play : Value} {od_law_play an_law_play : Option Addr} {sl_law_play : Array (Option Value)}
    {f_law_told : Addr} {oc_law_told kV_law_told dc_law_told pm_law_told cd_law_told ct_law_told : Value} {od_law_told an_law_told : Option Addr} {sl_law_told : Array (Option Value)}
    {flaw : Addr} {oclaw kVlaw dclaw pmlaw cdlaw ctlaw : Value} {odlaw anlaw : Option Addr} {sllaw : Array (Option Value)}
    {CGameError : Addr}
    {CBadAnswers : Addr}
    {CBadGame : Addr}
    {CBadPosition : Addr}
    {CBadPlayer : Addr}
    {CBadTable : Addr}
    {tMOST_NEXTS : Tok}
    {tMOST_POSITIONS : Tok}
    {tMOST_MARKS : Tok}
    {tMOST_ANSWERS : Tok}
    (ais_int : PySem.W.nsIn K mainGlobals "is_int" = some (some (.ref fis_int)))
    (lis_int : K.lookup fis_int = some ⟨ocis_int, odis_int, .func (PySem.W.fnOf "is_int" "is_int" (defArgs s_is_int) (defBody s_is_int) (defScope s_is_int) .none kVis_int dcis_int pmis_int anis_int cdis_int ctis_int), slis_int⟩)
    (cis_int : PySem.W.codeIn K cdis_int "is_int" = true)
    (kis_int : PySem.W.keepIn K (.ref fis_int) = true)
    (awithin : PySem.W.nsIn K mainGlobals "within" = some (some (.ref fwithin)))
    (lwithin : K.lookup fwithin = some ⟨ocwithin, odwithin, .func (PySem.W.fnOf "within" "within" (defArgs s_within) (defBody s_within) (defScope s_within) .none kVwithin dcwithin pmwithin anwithin cdwithin ctwithin), slwithin⟩)
    (cwithin : PySem.W.codeIn K cdwithin "within" = true)
    (kwithin : PySem.W.keepIn K (.ref fwithin) = true)
    (ais_position : PySem.W.nsIn K mainGlobals "is_position" = some (some (.ref fis_position)))
    (lis_position : K.lookup fis_position = some ⟨ocis_position, odis_position, .func (PySem.W.fnOf "is_position" "is_position" (defArgs s_is_position) (defBody s_is_position) (defScope s_is_position) .none kVis_position dcis_position pmis_position anis_position cdis_position ctis_position), slis_position⟩)
    (cis_position : PySem.W.codeIn K cdis_position "is_position" = true)
    (kis_position : PySem.W.keepIn K (.ref fis_position) = true)
    (ais_game : PySem.W.nsIn K mainGlobals "is_game" = some (some (.ref fis_game)))
    (lis_game : K.lookup fis_game = some ⟨ocis_game, odis_game, .func (PySem.W.fnOf "is_game" "is_game" (defArgs s_is_game) (defBody s_is_game) (defScope s_is_game) .none kVis_game dcis_game pmis_game anis_game cdis_game ctis_game), slis_game⟩)
    (cis_game : PySem.W.codeIn K cdis_game "is_game" = true)
    (kis_game : PySem.W.keepIn K (.ref fis_game) = true)
    (aneed_game : PySem.W.nsIn K mainGlobals "need_game" = some (some (.ref fneed_game)))
    (lneed_game : K.lookup fneed_game = some ⟨ocneed_game, odneed_game, .func (PySem.W.fnOf "need_game" "need_game" (defArgs s_need_game) (defBody s_need_game) (defScope s_need_game) .none kVneed_game dcneed_game pmneed_game anneed_game cdneed_game ctneed_game), slneed_game⟩)
    (cneed_game : PySem.W.codeIn K cdneed_game "need_game" = true)
    (kneed_game : PySem.W.keepIn K (.ref fneed_game) = true)
    (aneed_position : PySem.W.nsIn K mainGlobals "need_position" = some (some (.ref fneed_position)))
    (lneed_position : K.lookup fneed_position = some ⟨ocneed_position, odneed_position, .func (PySem.W.fnOf "need_position" "need_position" (defArgs s_need_position) (defBody s_need_position) (defScope s_need_position) .none kVneed_position dcneed_position pmneed_position anneed_position cdneed_position ctneed_position), slneed_position⟩)
    (cneed_position : PySem.W.codeIn K cdneed_position "need_position" = true)
    (kneed_position : PySem.W.keepIn K (.ref fneed_position) = true)
    (aneed_player : PySem.W.nsIn K mainGlobals "need_player" = some (some (.ref fneed_player)))
    (lneed_player : K.lookup fneed_player = some ⟨ocneed_player, odneed_player, .func (PySem.W.fnOf "need_player" "need_player" (defArgs s_need_player) (defBody s_need_player) (defScope s_need_player) .none kVneed_player dcneed_player pmneed_player anneed_player cdneed_player ctneed_player), slneed_player⟩)
    (cneed_player : PySem.W.codeIn K cdneed_player "need_player" = true)
    (kneed_player : PySem.W.keepIn K (.ref fneed_player) = true)
    (ais_entry : PySem.W.nsIn K mainGlobals "is_entry" = some (some (.ref fis_entry)))
    (lis_entry : K.lookup fis_entry = some ⟨ocis_entry, odis_entry, .func (PySem.W.fnOf "is_entry" "is_entry" (defArgs s_is_entry) (defBody s_is_entry) (defScope s_is_entry) .none kVis_entry dcis_entry pmis_entry anis_entry cdis_entry ctis_entry), slis_entry⟩)
    (cis_entry : PySem.W.codeIn K cdis_entry "is_entry" = true)
    (kis_entry : PySem.W.keepIn K (.ref fis_entry) = true)
    (aare_entries : PySem.W.nsIn K mainGlobals "are_entries" = some (some (.ref fare_entries)))
    (lare_entries : K.lookup fare_entries = some ⟨ocare_entries, odare_entries, .func (PySem.W.fnOf "are_entries" "are_entries" (defArgs s_are_entries) (defBody s_are_entries) (defScope s_are_entries) .none kVare_entries dcare_entries pmare_entries anare_entries cdare_entries ctare_entries), slare_entries⟩)
    (care_entries : PySem.W.codeIn K cdare_entries "are_entries" = true)
    (kare_entries : PySem.W.keepIn K (.ref fare_entries) = true)
    (aneed_table : PySem.W.nsIn K mainGlobals "need_table" = some (some (.ref fneed_table)))
    (lneed_table : K.lookup fneed_table = some ⟨ocneed_table, odneed_table, .func (PySem.W.fnOf "need_table" "need_table" (defArgs s_need_table) (defBody s_need_table) (defScope s_need_table) .none kVneed_table dcneed_table pmneed_table anneed_table cdneed_table ctneed_table), slneed_table⟩)
    (cneed_table : PySem.W.codeIn K cdneed_table "need_table" = true)
    (kneed_table : PySem.W.keepIn K (.ref fneed_table) = true)
    (aneed_answers : PySem.W.nsIn K mainGlobals "need_answers" = some (some (.ref fneed_answers)))
    (lneed_answers : K.lookup fneed_answers = some ⟨ocneed_answers, odneed_answers, .func (PySem.W.fnOf "need_answers" "need_answers" (defArgs s_need_answers) (defBody s_need_answers) (defScope s_need_answers) .none kVneed_answers dcneed_answers pmneed_answers anneed_answers cdneed_answers ctneed_answers), slneed_answers⟩)
    (cneed_answers : PySem.W.codeIn K cdneed_answers "need_answers" = true)
    (kneed_answers : PySem.W.keepIn K (.ref fneed_answers) = true)
    (atable_play : PySem.W.nsIn K mainGlobals "table_play" = some (some (.ref ftable_play)))
    (ltable_play : K.lookup ftable_play = some ⟨octable_play, odtable_play, .func (PySem.W.fnOf "table_play" "table_play" (defArgs s_table_play) (defBody s_table_play) (defScope s_table_play) .none kVtable_play dctable_play pmtable_play antable_play cdtable_play cttable_play), sltable_play⟩)
    (ctable_play : PySem.W.codeIn K cdtable_play "table_play" = true)
    (ktable_play : PySem.W.keepIn K (.ref ftable_play) = true)
    (a_law_jug : PySem.W.nsIn K mainGlobals "_law_jug" = some (some (.ref f_law_jug)))
    (l_law_jug : K.lookup f_law_jug = some ⟨oc_law_jug, od_law_jug, .func (PySem.W.fnOf "_law_jug" "_law_jug" (defArgs s__law_jug) (defBody s__law_jug) (defScope s__law_jug) .none kV_law_jug dc_law_jug pm_law_jug an_law_jug cd_law_jug ct_law_jug), sl_law_jug⟩)
    (c_law_jug : PySem.W.codeIn K cd_law_jug "_law_jug" = true)
    (k_law_jug : PySem.W.keepIn K (.ref f_law_jug) = true)
    (a_law_take : PySem.W.nsIn K mainGlobals "_law_take" = some (some (.ref f_law_take)))
    (l_law_take : K.lookup f_law_take = some ⟨oc_law_take, od_law_take, .func (PySem.W.fnOf "_law_take" "_law_take" (defArgs s__law_take) (defBody s__law_take) (defScope s__law_take) .none kV_law_take dc_law_take pm_law_take an_law_take cd_law_take ct_law_take), sl_law_take⟩)
    (c_law_take : PySem.W.codeIn K cd_law_take "_law_take" = true)
    (k_law_take : PySem.W.keepIn K (.ref f_law_take) = true)
    (a_law_same : PySem.W.nsIn K mainGlobals "_law_same" = some (some (.ref f_law_same)))
    (l_law_same : K.lookup f_law_same = some ⟨oc_law_same, od_law_same, .func (PySem.W.fnOf "_law_same" "_law_same" (defArgs s__law_same) (defBody s__law_same) (defScope s__law_same) .none kV_law_same dc_law_same pm_law_same an_law_same cd_law_same ct_law_same), sl_law_same⟩)
    (c_law_same : PySem.W.codeIn K cd_law_same "_law_same" = true)
    (k_law_same : PySem.W.keepIn K (.ref f_law_same) = true)
    (a_law_marks : PySem.W.nsIn K mainGlobals "_law_marks" = some (some (.ref f_law_marks)))
    (l_law_marks : K.lookup f_law_marks = some ⟨oc_law_marks, od_law_marks, .func (PySem.W.fnOf "_law_marks" "_law_marks" (defArgs s__law_marks) (defBody s__law_marks) (defScope s__law_marks) .none kV_law_marks dc_law_marks pm_law_marks an_law_marks cd_law_marks ct_law_marks), sl_law_marks⟩)
    (c_law_marks : PySem.W.codeIn K cd_law_marks "_law_marks" = true)
    (k_law_marks : PySem.W.keepIn K (.ref f_law_marks) = true)
    (a_law_game : PySem.W.nsIn K mainGlobals "_law_game" = some (some (.ref f_law_game)))
    (l_law_game : K.lookup f_law_game = some ⟨oc_law_game, od_law_game, .func (PySem.W.fnOf "_law_game" "_law_game" (defArgs s__law_game) (defBody s__law_game) (defScope s__law_game) .none kV_law_game dc_law_game pm_law_game an_law_game cd_law_game ct_law_game), sl_law_game⟩)
    (c_law_game : PySem.W.codeIn K cd_law_game "_law_game" = true)
    (k_law_game : PySem.W.keepIn K (.ref f_law_game) = true)
    (a_law_table : PySem.W.nsIn K mainGlobals "_law_table" = some (some (.ref f_law_table)))
    (l_law_table : K.lookup f_law_table = some ⟨oc_law_table, od_law_table, .func (PySem.W.fnOf "_law_table" "_law_table" (defArgs s__law_table) (defBody s__law_table) (defScope s__law_table) .none kV_law_table dc_law_table pm_law_table an_law_table cd_law_table ct_law_table), sl_law_table⟩)
    (c_law_table : PySem.W.codeIn K cd_law_table "_law_table" = true)
    (k_law_table : PySem.W.keepIn K (.ref f_law_table) = true)
    (a_law_play : PySem.W.nsIn K mainGlobals "_law_play" = some (some (.ref f_law_play)))
    (l_law_play : K.lookup f_law_play = some ⟨oc_law_play, od_law_play, .func (PySem.W.fnOf "_law_play" "_law_play" (defArgs s__law_play) (defBody s__law_play) (defScope s__law_play) .none kV_law_play dc_law_play pm_law_play an_law_play cd_law_play ct_law_play), sl_law_play⟩)
    (c_law_play : PySem.W.codeIn K cd_law_play "_law_play" = true)
    (k_law_play : PySem.W.keepIn K (.ref f_law_play) = true)
    (a_law_told : PySem.W.nsIn K mainGlobals "_law_told" = some (some (.ref f_law_told)))
    (l_law_told : K.lookup f_law_told = some ⟨oc_law_told, od_law_told, .func (PySem.W.fnOf "_law_told" "_law_told" (defArgs s__law_told) (defBody s__law_told) (defScope s__law_told) .none kV_law_told dc_law_told pm_law_told an_law_told cd_law_told ct_law_told), sl_law_told⟩)
    (c_law_told : PySem.W.codeIn K cd_law_told "_law_told" = true)
    (k_law_told : PySem.W.keepIn K (.ref f_law_told) = true)
    (alaw : PySem.W.nsIn K mainGlobals "law" = some (some (.ref flaw)))
    (llaw : K.lookup flaw = some ⟨oclaw, odlaw, .func (PySem.W.fnOf "law" "law" (defArgs s_law) (defBody s_law) (defScope s_law) .none kVlaw dclaw pmlaw anlaw cdlaw ctlaw), sllaw⟩)
    (claw : PySem.W.codeIn K cdlaw "law" = true)
    (klaw : PySem.W.keepIn K (.ref flaw) = true)
    (aCGameError : PySem.W.nsIn K mainGlobals "GameError" = some (some (.ref CGameError)))
    (bCGameError : PySem.W.subIn K (.ref CGameError) (.type "BaseException") = some true)
    (tCGameError : PySem.W.typeIn K (.ref CGameError) = some (.type "type"))
    (iCGameError : PySem.W.isClsIn K CGameError = true)
    (aCBadAnswers : PySem.W.nsIn K mainGlobals "BadAnswers" = some (some (.ref CBadAnswers)))
    (eCBadAnswers : PySem.W.excIn K CBadAnswers [.type "ValueError", .type "Exception", .type "BaseException", .type "object"] "ValueError.__new__" = true)
    (kCBadAnswers : PySem.W.keepIn K (.ref CBadAnswers) = true)
    (bCBadAnswers : PySem.W.subIn K (.ref CBadAnswers) (.type "BaseException") = some true)
    (tCBadAnswers : PySem.W.typeIn K (.ref CBadAnswers) = some (.type "type"))
    (iCBadAnswers : PySem.W.isClsIn K CBadAnswers = true)
    (aCBadGame : PySem.W.nsIn K mainGlobals "BadGame" = some (some (.ref CBadGame)))
    (eCBadGame : PySem.W.excIn K CBadGame [.type "ValueError", .type "Exception", .type "BaseException", .type "object"] "ValueError.__new__" = true)
    (kCBadGame : PySem.W.keepIn K (.ref CBadGame) = true)
    (bCBadGame : PySem.W.subIn K (.ref CBadGame) (.type "BaseException") = some true)
    (tCBadGame : PySem.W.typeIn K (.ref CBadGame) = some (.type "type"))
    (iCBadGame : PySem.W.isClsIn K CBadGame = true)
    (aCBadPosition : PySem.W.nsIn K mainGlobals "BadPosition" = some (some (.ref CBadPosition)))
    (eCBadPosition : PySem.W.excIn K CBadPosition [.type "ValueError", .type "Exception", .type "BaseException", .type "object"] "ValueError.__new__" = true)
    (kCBadPosition : PySem.W.keepIn K (.ref CBadPosition) = true)
    (bCBadPosition : PySem.W.subIn K (.ref CBadPosition) (.type "BaseException") = some true)
    (tCBadPosition : PySem.W.typeIn K (.ref CBadPosition) = some (.type "type"))
    (iCBadPosition : PySem.W.isClsIn K CBadPosition = true)
    (aCBadPlayer : PySem.W.nsIn K mainGlobals "BadPlayer" = some (some (.ref CBadPlayer)))
    (eCBadPlayer : PySem.W.excIn K CBadPlayer [.type "ValueError", .type "Exception", .type "BaseException", .type "object"] "ValueError.__new__" = true)
    (kCBadPlayer : PySem.W.keepIn K (.ref CBadPlayer) = true)
    (bCBadPlayer : PySem.W.subIn K (.ref CBadPlayer) (.type "BaseException") = some true)
    (tCBadPlayer : PySem.W.typeIn K (.ref CBadPlayer) = some (.type "type"))
    (iCBadPlayer : PySem.W.isClsIn K CBadPlayer = true)
    (aCBadTable : PySem.W.nsIn K mainGlobals "BadTable" = some (some (.ref CBadTable)))
    (eCBadTable : PySem.W.excIn K CBadTable [.type "ValueError", .type "Exception", .type "BaseException", .type "object"] "ValueError.__new__" = true)
    (kCBadTable : PySem.W.keepIn K (.ref CBadTable) = true)
    (bCBadTable : PySem.W.subIn K (.ref CBadTable) (.type "BaseException") = some true)
    (tCBadTable : PySem.W.typeIn K (.ref CBadTable) = some (.type "type"))
    (iCBadTable : PySem.W.isClsIn K CBadTable = true)
    (yz_isinstance : PySem.W.nsIn K mainGlobals "isinstance" = some none)
    (yz_int : PySem.W.nsIn K mainGlobals "int" = some none)
    (yz_bool : PySem.W.nsIn K mainGlobals "bool" = some none)
    (yz_tuple : PySem.W.nsIn K mainGlobals "tuple" = some none)
    (yz_len : PySem.W.nsIn K mainGlobals "len" = some none)
    (gc_MOST_NEXTS : PySem.W.nsIn K mainGlobals "MOST_NEXTS" = some (some (.int 1002 tMOST_NEXTS)))
    (yz_all : PySem.W.nsIn K mainGlobals "all" = some none)
    (yz_set : PySem.W.nsIn K mainGlobals "set" = some none)
    (gc_MOST_POSITIONS : PySem.W.nsIn K mainGlobals "MOST_POSITIONS" = some (some (.int 10000 tMOST_POSITIONS)))
    (gc_MOST_MARKS : PySem.W.nsIn K mainGlobals "MOST_MARKS" = some (some (.int 20 tMOST_MARKS)))
    (yz_range : PySem.W.nsIn K mainGlobals "range" = some none)
    (gc_MOST_ANSWERS : PySem.W.nsIn K mainGlobals "MOST_ANSWERS" = some (some (.int 1000 tMOST_ANSWERS)))
    (yz_list : PySem.W.nsIn K mainGlobals "list" = some none)
    (yz_abs : PySem.W.nsIn K mainGlobals "abs" = some none)
    (yz_str : PySem.W.nsIn K mainGlobals "str" = some none)
    (s_BadAnswers_BadAnswers : PySem.W.subIn K (.ref CBadAnswers) (.ref CBadAnswers) = some true)
    (s_BadAnswers_GameError : PySem.W.subIn K (.ref CBadAnswers) (.ref CGameError) = some true)
    (s_BadGame_BadAnswers : PySem.W.subIn K (.ref CBadGame) (.ref CBadAnswers) = some false)
    (s_BadGame_GameError : PySem.W.subIn K (.ref CBadGame) (.ref CGameError) = some true)
    (s_BadPosition_BadAnswers : PySem.W.subIn K (.ref CBadPosition) (.ref CBadAnswers) = some false)
    (s_BadPosition_GameError : PySem.W.subIn K (.ref CBadPosition) (.ref CGameError) = some true)
    (s_BadPlayer_BadAnswers : PySem.W.subIn K (.ref CBadPlayer) (.ref CBadAnswers) = some false)
    (s_BadPlayer_GameError : PySem.W.subIn K (.ref CBadPlayer) (.ref CGameError) = some true)
    (s_BadTable_BadAnswers : PySem.W.subIn K (.ref CBadTable) (.ref CBadAnswers) = some false)
    (s_BadTable_GameError : PySem.W.subIn K (.ref CBadTable) (.ref CGameError) = some true)
    (yz_min : PySem.W.nsIn K mainGlobals "min" = some none) :
    ∃ fd : FuncData, (∀ (s : Shared) (u : Value), BindsTo s fd ⟨[u], []⟩ [("script", u)]) ∧ ∀ base : Heap, K.In base → base.Ns mainGlobals mg → ∃ mgx, FnOk l.prog w K mg base (L2.CX l.prog w) 13 fa fd ["script"] (liftSp ⟨K, mgx⟩ sp_law) := by
  have e := hfa.symm.trans (PySem.W.mg_of X G alaw)
  cases e
  have Dis_int : DefAt K mg "is_int" s_is_int := def_at X G ais_int lis_int cis_int kis_int
  have Dwithin : DefAt K mg "within" s_within := def_at X G awithin lwithin cwithin kwithin
  have Dis_position : DefAt K mg "is_position" s_is_position := def_at X G ais_position lis_position cis_position kis_position
  have Dis_game : DefAt K mg "is_game" s_is_game := def_at X G ais_game lis_game cis_game kis_game
  have Dneed_game : DefAt K mg "need_game" s_need_game := def_at X G aneed_game lneed_game cneed_game kneed_game
  have Dneed_position : DefAt K mg "need_position" s_need_position := def_at X G aneed_position lneed_position cneed_position kneed_position
  have Dneed_player : DefAt K mg "need_player" s_need_player := def_at X G aneed_player lneed_player cneed_player kneed_player
  have Dis_entry : DefAt K mg "is_entry" s_is_entry := def_at X G ais_entry lis_entry cis_entry kis_entry
  have Dare_entries : DefAt K mg "are_entries" s_are_entries := def_at X G aare_entries lare_entries care_entries kare_entries
  have Dneed_table : DefAt K mg "need_table" s_need_table := def_at X G aneed_table lneed_table cneed_table kneed_table
  have Dneed_answers : DefAt K mg "need_answers" s_need_answers := def_at X G aneed_answers lneed_answers cneed_answers kneed_answers
  have Dtable_play : DefAt K mg "table_play" s_table_play := def_at X G atable_play ltable_play ctable_play ktable_play
  have D_law_jug : DefAt K mg "_law_jug" s__law_jug := def_at X G a_law_jug l_law_jug c_law_jug k_law_jug
  have D_law_take : DefAt K mg "_law_take" s__law_take := def_at X G a_law_take l_law_take c_law_take k_law_take
  have D_law_same : DefAt K mg "_law_same" s__law_same := def_at X G a_law_same l_law_same c_law_same k_law_same
  have D_law_marks : DefAt K mg "_law_marks" s__law_marks := def_at X G a_law_marks l_law_marks c_law_marks k_law_marks
  have D_law_game : DefAt K mg "_law_game" s__law_game := def_at X G a_law_game l_law_game c_law_game k_law_game
  have D_law_table : DefAt K mg "_law_table" s__law_table := def_at X G a_law_table l_law_table c_law_table k_law_table
  have D_law_play : DefAt K mg "_law_play" s__law_play := def_at X G a_law_play l_law_play c_law_play k_law_play
  have D_law_told : DefAt K mg "_law_told" s__law_told := def_at X G a_law_told l_law_told c_law_told k_law_told
  have Dlaw : DefAt K mg "law" s_law := def_at X G alaw llaw claw klaw
  have z_isinstance : mg "isinstance" = none := PySem.W.mg_none_of X G yz_isinstance
  have z_int : mg "int" = none := PySem.W.mg_none_of X G yz_int
  have z_bool : mg "bool" = none := PySem.W.mg_none_of X G yz_bool
  have z_tuple : mg "tuple" = none := PySem.W.mg_none_of X G yz_tuple
  have z_len : mg "len" = none := PySem.W.mg_none_of X G yz_len
  have c_MOST_NEXTS : ConstOk K mg "MOST_NEXTS" (.int 1002) := cst_int X G gc_MOST_NEXTS
  have z_all : mg "all" = none := PySem.W.mg_none_of X G yz_all
  have z_set : mg "set" = none := PySem.W.mg_none_of X G yz_set
  have c_MOST_POSITIONS : ConstOk K mg "MOST_POSITIONS" (.int 10000) := cst_int X G gc_MOST_POSITIONS
  have c_MOST_MARKS : ConstOk K mg "MOST_MARKS" (.int 20) := cst_int X G gc_MOST_MARKS
  have x_BadGame : ExcOk K mg "BadGame" := ⟨CBadGame, PySem.W.mg_of X G aCBadGame, eCBadGame, kCBadGame, bCBadGame, tCBadGame⟩
  have x_BadPosition : ExcOk K mg "BadPosition" := ⟨CBadPosition, PySem.W.mg_of X G aCBadPosition, eCBadPosition, kCBadPosition, bCBadPosition, tCBadPosition⟩
  have x_BadPlayer : ExcOk K mg "BadPlayer" := ⟨CBadPlayer, PySem.W.mg_of X G aCBadPlayer, eCBadPlayer, kCBadPlayer, bCBadPlayer, tCBadPlayer⟩
  have z_range : mg "range" = none := PySem.W.mg_none_of X G yz_range
  have x_BadTable : ExcOk K mg "BadTable" := ⟨CBadTable, PySem.W.mg_of X G aCBadTable, eCBadTable, kCBadTable, bCBadTable, tCBadTable⟩
  have x_BadAnswers : ExcOk K mg "BadAnswers" := ⟨CBadAnswers, PySem.W.mg_of X G aCBadAnswers, eCBadAnswers, kCBadAnswers, bCBadAnswers, tCBadAnswers⟩
  have c_MOST_ANSWERS : ConstOk K mg "MOST_ANSWERS" (.int 1000) := cst_int X G gc_MOST_ANSWERS
  have z_list : mg "list" = none := PySem.W.mg_none_of X G yz_list
  have z_abs : mg "abs" = none := PySem.W.mg_none_of X G yz_abs
  have z_str : mg "str" = none := PySem.W.mg_none_of X G yz_str
  have m_BadAnswers : ClsAt mg "BadAnswers" := ⟨_, PySem.W.mg_of X G aCBadAnswers⟩
  have m_GameError : ClsAt mg "GameError" := ⟨_, PySem.W.mg_of X G aCGameError⟩
  have so : SubOk K mg subT := by
    intro n c b h
    unfold subT at h
    by_cases h_BadAnswers_BadAnswers : n = ("BadAnswers" : Str) ∧ c = ("BadAnswers" : Str)
    · rw [if_pos h_BadAnswers_BadAnswers] at h; cases h; rw [h_BadAnswers_BadAnswers.1, h_BadAnswers_BadAnswers.2]; exact ⟨_, _, PySem.W.mg_of X G aCBadAnswers, PySem.W.mg_of X G aCBadAnswers, exm_pair bCBadAnswers iCBadAnswers tCBadAnswers s_BadAnswers_BadAnswers⟩
    rw [if_neg h_BadAnswers_BadAnswers] at h
    by_cases h_BadAnswers_GameError : n = ("BadAnswers" : Str) ∧ c = ("GameError" : Str)
    · rw [if_pos h_BadAnswers_GameError] at h; cases h; rw [h_BadAnswers_GameError.1, h_BadAnswers_GameError.2]; exact ⟨_, _, PySem.W.mg_of X G aCBadAnswers, PySem.W.mg_of X G aCGameError, exm_pair bCGameError iCGameError tCGameError s_BadAnswers_GameError⟩
    rw [if_neg h_BadAnswers_GameError] at h
    by_cases h_BadGame_BadAnswers : n = ("BadGame" : Str) ∧ c = ("BadAnswers" : Str)
    · rw [if_pos h_BadGame_BadAnswers] at h; cases h; rw [h_BadGame_BadAnswers.1, h_BadGame_BadAnswers.2]; exact ⟨_, _, PySem.W.mg_of X G aCBadGame, PySem.W.mg_of X G aCBadAnswers, exm_pair bCBadAnswers iCBadAnswers tCBadAnswers s_BadGame_BadAnswers⟩
    rw [if_neg h_BadGame_BadAnswers] at h
    by_cases h_BadGame_GameError : n = ("BadGame" : Str) ∧ c = ("GameError" : Str)
    · rw [if_pos h_BadGame_GameError] at h; cases h; rw [h_BadGame_GameError.1, h_BadGame_GameError.2]; exact ⟨_, _, PySem.W.mg_of X G aCBadGame, PySem.W.mg_of X G aCGameError, exm_pair bCGameError iCGameError tCGameError s_BadGame_GameError⟩
    rw [if_neg h_BadGame_GameError] at h
    by_cases h_BadPosition_BadAnswers : n = ("BadPosition" : Str) ∧ c = ("BadAnswers" : Str)
    · rw [if_pos h_BadPosition_BadAnswers] at h; cases h; rw [h_BadPosition_BadAnswers.1, h_BadPosition_BadAnswers.2]; exact ⟨_, _, PySem.W.mg_of X G aCBadPosition, PySem.W.mg_of X G aCBadAnswers, exm_pair bCBadAnswers iCBadAnswers tCBadAnswers s_BadPosition_BadAnswers⟩
    rw [if_neg h_BadPosition_BadAnswers] at h
    by_cases h_BadPosition_GameError : n = ("BadPosition" : Str) ∧ c = ("GameError" : Str)
    · rw [if_pos h_BadPosition_GameError] at h; cases h; rw [h_BadPosition_GameError.1, h_BadPosition_GameError.2]; exact ⟨_, _, PySem.W.mg_of X G aCBadPosition, PySem.W.mg_of X G aCGameError, exm_pair bCGameError iCGameError tCGameError s_BadPosition_GameError⟩
    rw [if_neg h_BadPosition_GameError] at h
    by_cases h_BadPlayer_BadAnswers : n = ("BadPlayer" : Str) ∧ c = ("BadAnswers" : Str)
    · rw [if_pos h_BadPlayer_BadAnswers] at h; cases h; rw [h_BadPlayer_BadAnswers.1, h_BadPlayer_BadAnswers.2]; exact ⟨_, _, PySem.W.mg_of X G aCBadPlayer, PySem.W.mg_of X G aCBadAnswers, exm_pair bCBadAnswers iCBadAnswers tCBadAnswers s_BadPlayer_BadAnswers⟩
    rw [if_neg h_BadPlayer_BadAnswers] at h
    by_cases h_BadPlayer_GameError : n = ("BadPlayer" : Str) ∧ c = ("GameError" : Str)
    · rw [if_pos h_BadPlayer_GameError] at h; cases h; rw [h_BadPlayer_GameError.1, h_BadPlayer_GameError.2]; exact ⟨_, _, PySem.W.mg_of X G aCBadPlayer, PySem.W.mg_of X G aCGameError, exm_pair bCGameError iCGameError tCGameError s_BadPlayer_GameError⟩
    rw [if_neg h_BadPlayer_GameError] at h
    by_cases h_BadTable_BadAnswers : n = ("BadTable" : Str) ∧ c = ("BadAnswers" : Str)
    · rw [if_pos h_BadTable_BadAnswers] at h; cases h; rw [h_BadTable_BadAnswers.1, h_BadTable_BadAnswers.2]; exact ⟨_, _, PySem.W.mg_of X G aCBadTable, PySem.W.mg_of X G aCBadAnswers, exm_pair bCBadAnswers iCBadAnswers tCBadAnswers s_BadTable_BadAnswers⟩
    rw [if_neg h_BadTable_BadAnswers] at h
    by_cases h_BadTable_GameError : n = ("BadTable" : Str) ∧ c = ("GameError" : Str)
    · rw [if_pos h_BadTable_GameError] at h; cases h; rw [h_BadTable_GameError.1, h_BadTable_GameError.2]; exact ⟨_, _, PySem.W.mg_of X G aCBadTable, PySem.W.mg_of X G aCGameError, exm_pair bCGameError iCGameError tCGameError s_BadTable_GameError⟩
    rw [if_neg h_BadTable_GameError] at h
    cases h
  have z_min : mg "min" = none := PySem.W.mg_none_of X G yz_min
  refine ⟨_, fun s u => .of_eq rfl, fun base _ _ => ⟨mg, law_end hfa llaw ?_⟩⟩
  have o_is_int := ok_is_int (P := l.prog) (w := w) (base := base) Dis_int z_isinstance z_int z_bool
  have o_within := ok_within (P := l.prog) (w := w) (base := base) Dwithin o_is_int
  have o_is_position := ok_is_position (P := l.prog) (w := w) (base := base) Dis_position z_isinstance z_tuple z_len o_within o_is_int c_MOST_NEXTS z_all z_set
  have o_is_game := ok_is_game (P := l.prog) (w := w) (base := base) Dis_game z_isinstance z_tuple z_len c_MOST_POSITIONS o_is_position z_set c_MOST_MARKS
  have o_need_game := ok_need_game (P := l.prog) (w := w) (base := base) Dneed_game o_is_game x_BadGame
  have o_need_position := ok_need_position (P := l.prog) (w := w) (base := base) Dneed_position z_len o_within x_BadPosition
  have o_need_player := ok_need_player (P := l.prog) (w := w) (base := base) Dneed_player o_within x_BadPlayer
  have o_is_entry := ok_is_entry (P := l.prog) (w := w) (base := base) Dis_entry o_is_int
  have o_are_entries := ok_are_entries (P := l.prog) (w := w) (base := base) Dare_entries z_isinstance z_tuple z_len z_range o_is_entry z_all
  have o_need_table := ok_need_table (P := l.prog) (w := w) (base := base) Dneed_table o_need_game o_need_player o_are_entries x_BadTable
  have o_need_answers := ok_need_answers (P := l.prog) (w := w) (base := base) Dneed_answers z_isinstance z_tuple z_len x_BadAnswers o_is_int z_all
  have o_table_play := ok_table_play (P := l.prog) (w := w) (base := base) Dtable_play o_need_table o_need_position c_MOST_ANSWERS o_need_answers z_len z_tuple
  have o__law_jug := ok__law_jug (P := l.prog) (w := w) (base := base) D_law_jug z_list
  have o__law_take := ok__law_take (P := l.prog) (w := w) (base := base) D_law_take z_len z_abs z_int
  have o__law_same : ∀ n, Ok l.prog w K mg base "_law_same" n ["found", "due"] (sp_law_same n) := fun n => by
    induction n with
    | zero => exact ok0__law_same D_law_same
    | succ n ih => exact ok__law_same n D_law_same z_isinstance z_tuple z_len z_range ih z_bool z_str z_int
  have o__law_marks := ok__law_marks (P := l.prog) (w := w) (base := base) D_law_marks o__law_take z_range
  have o__law_game := ok__law_game (P := l.prog) (w := w) (base := base) D_law_game z_range o__law_take z_tuple z_len
  have o__law_play := ok__law_play (P := l.prog) (w := w) (base := base) D_law_play z_len z_tuple z_int
  have o__law_table := ok__law_table (P := l.prog) (w := w) (base := base) D_law_table z_len o__law_take z_tuple
  have o__law_told := ok__law_told (P := l.prog) (w := w) (base := base) D_law_told o_table_play m_BadAnswers m_GameError so
  have o_law := ok_law (P := l.prog) (w := w) (base := base) Dlaw o__law_jug z_range z_len z_min o__law_take o__law_marks o__law_game o__law_table z_tuple o__law_play o__law_told ((o__law_same 4).mono (by decide)) z_list
  exact o_law
end D2
open PySem PySem.W PyProof.Rows
set_option maxRecDepth 100000 in
set_option maxHeartbeats 0 in
theorem PySem.Challenge.cw_callgames_k26_plays_of_tables_holds : PySem.Challenge.rw_callgames_k26_plays_of_tables.Holds := by
  w_on; o_law; k_head; (case hw => w_witness2)
  k_fill
  refine D2.walkD (l := PySem.Challenge.rw_callgames_k26_plays_of_tables) (lv := 13) (sp := D2.sp_law) rfl rfl ⟨rfl, by decide, by decide⟩ (fun w h Y => PySem.W.kIn_of Y) ?F (fun ns hl L hL => D2.law_holds ns hl L hL)
  case F =>
    intro w mg fa h KX G hmg
    refine' D2.all_mk KX G hmg ?ais_int ?lis_int ?cis_int ?kis_int ?awithin ?lwithin ?cwithin ?kwithin ?ais_position ?lis_position ?cis_position ?kis_position ?ais_game ?lis_game ?cis_game ?kis_game ?aneed_game ?lneed_game ?cneed_game ?kneed_game ?aneed_position ?lneed_position ?cneed_position ?kneed_position ?aneed_player ?lneed_player ?cneed_player ?kneed_player ?ais_entry ?lis_entry ?cis_entry ?kis_entry ?aare_entries ?lare_entries ?care_entries ?kare_entries ?aneed_table ?lneed_table ?cneed_table ?kneed_table ?aneed_answers ?lneed_answers ?cneed_answers ?kneed_answers ?atable_play ?ltable_play ?ctable_play ?ktable_play ?a_law_jug ?l_law_jug ?c_law_jug ?k_law_jug ?a_law_take ?l_law_take ?c_law_take ?k_law_take ?a_law_same ?l_law_same ?c_law_same ?k_law_same ?a_law_marks ?l_law_marks ?c_law_marks ?k_law_marks ?a_law_game ?l_law_game ?c_law_game ?k_law_game ?a_law_table ?l_law_table ?c_law_table ?k_law_table ?a_law_play ?l_law_play ?c_law_play ?k_law_play ?a_law_told ?l_law_told ?c_law_told ?k_law_told ?alaw ?llaw ?claw ?klaw ?aCGameError ?bCGameError ?tCGameError ?iCGameError ?aCBadAnswers ?eCBadAnswers ?kCBadAnswers ?bCBadAnswers ?tCBadAnswers ?iCBadAnswers ?aCBadGame ?eCBadGame ?kCBadGame ?bCBadGame ?tCBadGame ?iCBadGame ?aCBadPosition ?eCBadPosition ?kCBadPosition ?bCBadPosition ?tCBadPosition ?iCBadPosition ?aCBadPlayer ?eCBadPlayer ?kCBadPlayer ?bCBadPlayer ?tCBadPlayer ?iCBadPlayer ?aCBadTable ?eCBadTable ?kCBadTable ?bCBadTable ?tCBadTable ?iCBadTable ?yz_isinstance ?yz_int ?yz_bool ?yz_tuple ?yz_len ?gc_MOST_NEXTS ?yz_all ?yz_set ?gc_MOST_POSITIONS ?gc_MOST_MARKS ?yz_range ?gc_MOST_ANSWERS ?yz_list ?yz_abs ?yz_str ?s_BadAnswers_BadAnswers ?s_BadAnswers_GameError ?s_BadGame_BadAnswers ?s_BadGame_GameError ?s_BadPosition_BadAnswers ?s_BadPosition_GameError ?s_BadPlayer_BadAnswers ?s_BadPlayer_GameError ?s_BadTable_BadAnswers ?s_BadTable_GameError ?yz_min
    (case ais_int => first | k_is | k_exc | rfl); (case lis_int => first | k_is | k_exc | rfl); (case cis_int => first | k_is | k_exc | rfl); (case kis_int => first | k_is | k_exc | rfl); (case awithin => first | k_is | k_exc | rfl); (case lwithin => first | k_is | k_exc | rfl)
    (case cwithin => first | k_is | k_exc | rfl); (case kwithin => first | k_is | k_exc | rfl); (case ais_position => first | k_is | k_exc | rfl); (case lis_position => first | k_is | k_exc | rfl); (case cis_position => first | k_is | k_exc | rfl); (case kis_position => first | k_is | k_exc | rfl)
    (case ais_game => first | k_is | k_exc | rfl); (case lis_game => first | k_is | k_exc | rfl); (case cis_game => first | k_is | k_exc | rfl); (case kis_game => first | k_is | k_exc | rfl); (case aneed_game => first | k_is | k_exc | rfl); (case lneed_game => first | k_is | k_exc | rfl)
    (case cneed_game => first | k_is | k_exc | rfl); (case kneed_game => first | k_is | k_exc | rfl); (case aneed_position => first | k_is | k_exc | rfl); (case lneed_position => first | k_is | k_exc | rfl); (case cneed_position => first | k_is | k_exc | rfl); (case kneed_position => first | k_is | k_exc | rfl)
    (case aneed_player => first | k_is | k_exc | rfl); (case lneed_player => first | k_is | k_exc | rfl); (case cneed_player => first | k_is | k_exc | rfl); (case kneed_player => first | k_is | k_exc | rfl); (case ais_entry => first | k_is | k_exc | rfl); (case lis_entry => first | k_is | k_exc | rfl)
    (case cis_entry => first | k_is | k_exc | rfl); (case kis_entry => first | k_is | k_exc | rfl); (case aare_entries => first | k_is | k_exc | rfl); (case lare_entries => first | k_is | k_exc | rfl); (case care_entries => first | k_is | k_exc | rfl); (case kare_entries => first | k_is | k_exc | rfl)
    (case aneed_table => first | k_is | k_exc | rfl); (case lneed_table => first | k_is | k_exc | rfl); (case cneed_table => first | k_is | k_exc | rfl); (case kneed_table => first | k_is | k_exc | rfl); (case aneed_answers => first | k_is | k_exc | rfl); (case lneed_answers => first | k_is | k_exc | rfl)
    (case cneed_answers => first | k_is | k_exc | rfl); (case kneed_answers => first | k_is | k_exc | rfl); (case atable_play => first | k_is | k_exc | rfl); (case ltable_play => first | k_is | k_exc | rfl); (case ctable_play => first | k_is | k_exc | rfl); (case ktable_play => first | k_is | k_exc | rfl)
    (case a_law_jug => first | k_is | k_exc | rfl); (case l_law_jug => first | k_is | k_exc | rfl); (case c_law_jug => first | k_is | k_exc | rfl); (case k_law_jug => first | k_is | k_exc | rfl); (case a_law_take => first | k_is | k_exc | rfl); (case l_law_take => first | k_is | k_exc | rfl)
    (case c_law_take => first | k_is | k_exc | rfl); (case k_law_take => first | k_is | k_exc | rfl); (case a_law_same => first | k_is | k_exc | rfl); (case l_law_same => first | k_is | k_exc | rfl); (case c_law_same => first | k_is | k_exc | rfl); (case k_law_same => first | k_is | k_exc | rfl)
    (case a_law_marks => first | k_is | k_exc | rfl); (case l_law_marks => first | k_is | k_exc | rfl); (case c_law_marks => first | k_is | k_exc | rfl); (case k_law_marks => first | k_is | k_exc | rfl); (case a_law_game => first | k_is | k_exc | rfl); (case l_law_game => first | k_is | k_exc | rfl)
    (case c_law_game => first | k_is | k_exc | rfl); (case k_law_game => first | k_is | k_exc | rfl); (case a_law_table => first | k_is | k_exc | rfl); (case l_law_table => first | k_is | k_exc | rfl); (case c_law_table => first | k_is | k_exc | rfl); (case k_law_table => first | k_is | k_exc | rfl)
    (case a_law_play => first | k_is | k_exc | rfl); (case l_law_play => first | k_is | k_exc | rfl); (case c_law_play => first | k_is | k_exc | rfl); (case k_law_play => first | k_is | k_exc | rfl); (case a_law_told => first | k_is | k_exc | rfl); (case l_law_told => first | k_is | k_exc | rfl)
    (case c_law_told => first | k_is | k_exc | rfl); (case k_law_told => first | k_is | k_exc | rfl); (case alaw => first | k_is | k_exc | rfl); (case llaw => first | k_is | k_exc | rfl); (case claw => first | k_is | k_exc | rfl); (case klaw => first | k_is | k_exc | rfl)
    (case aCGameError => first | k_is | k_exc | rfl); (case bCGameError => first | k_is | k_exc | rfl); (case tCGameError => first | k_is | k_exc | rfl); (case iCGameError => first | k_is | k_exc | rfl); (case aCBadAnswers => first | k_is | k_exc | rfl); (case eCBadAnswers => first | k_is | k_exc | rfl)
    (case kCBadAnswers => first | k_is | k_exc | rfl); (case bCBadAnswers => first | k_is | k_exc | rfl); (case tCBadAnswers => first | k_is | k_exc | rfl); (case iCBadAnswers => first | k_is | k_exc | rfl); (case aCBadGame => first | k_is | k_exc | rfl); (case eCBadGame => first | k_is | k_exc | rfl)
    (case kCBadGame => first | k_is | k_exc | rfl); (case bCBadGame => first | k_is | k_exc | rfl); (case tCBadGame => first | k_is | k_exc | rfl); (case iCBadGame => first | k_is | k_exc | rfl); (case aCBadPosition => first | k_is | k_exc | rfl); (case eCBadPosition => first | k_is | k_exc | rfl)
    (case kCBadPosition => first | k_is | k_exc | rfl); (case bCBadPosition => first | k_is | k_exc | rfl); (case tCBadPosition => first | k_is | k_exc | rfl); (case iCBadPosition => first | k_is | k_exc | rfl); (case aCBadPlayer => first | k_is | k_exc | rfl); (case eCBadPlayer => first | k_is | k_exc | rfl)
    (case kCBadPlayer => first | k_is | k_exc | rfl); (case bCBadPlayer => first | k_is | k_exc | rfl); (case tCBadPlayer => first | k_is | k_exc | rfl); (case iCBadPlayer => first | k_is | k_exc | rfl); (case aCBadTable => first | k_is | k_exc | rfl); (case eCBadTable => first | k_is | k_exc | rfl)
    (case kCBadTable => first | k_is | k_exc | rfl); (case bCBadTable => first | k_is | k_exc | rfl); (case tCBadTable => first | k_is | k_exc | rfl); (case iCBadTable => first | k_is | k_exc | rfl); (case yz_isinstance => first | k_is | k_exc | rfl); (case yz_int => first | k_is | k_exc | rfl)
    (case yz_bool => first | k_is | k_exc | rfl); (case yz_tuple => first | k_is | k_exc | rfl); (case yz_len => first | k_is | k_exc | rfl); (case gc_MOST_NEXTS => first | k_is | k_exc | rfl); (case yz_all => first | k_is | k_exc | rfl); (case yz_set => first | k_is | k_exc | rfl)
    (case gc_MOST_POSITIONS => first | k_is | k_exc | rfl); (case gc_MOST_MARKS => first | k_is | k_exc | rfl); (case yz_range => first | k_is | k_exc | rfl); (case gc_MOST_ANSWERS => first | k_is | k_exc | rfl); (case yz_list => first | k_is | k_exc | rfl); (case yz_abs => first | k_is | k_exc | rfl)
    (case yz_str => first | k_is | k_exc | rfl); (case s_BadAnswers_BadAnswers => first | k_is | k_exc | rfl); (case s_BadAnswers_GameError => first | k_is | k_exc | rfl); (case s_BadGame_BadAnswers => first | k_is | k_exc | rfl); (case s_BadGame_GameError => first | k_is | k_exc | rfl); (case s_BadPosition_BadAnswers => first | k_is | k_exc | rfl)
    (case s_BadPosition_GameError => first | k_is | k_exc | rfl); (case s_BadPlayer_BadAnswers => first | k_is | k_exc | rfl); (case s_BadPlayer_GameError => first | k_is | k_exc | rfl); (case s_BadTable_BadAnswers => first | k_is | k_exc | rfl); (case s_BadTable_GameError => first | k_is | k_exc | rfl); (case yz_min => first | k_is | k_exc | rfl)

